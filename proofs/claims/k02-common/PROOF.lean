import PyProof.Rows.All
import Wide.All
import OpenK.AllK
import Wide.FinOn
import HandS.ForMost
import HandS.Evl
import HandS.Zip
import HandS.TupAny
import HandS.Wide
import HandS.Walk
import HandS.Defaults
import HandS.IsInst
import KE.DataMinMax
import KE.GoesEnum
import HandS.Lambda
import HandS.SetFor
import HandS.SetTxt0
import HandS.SetTxtIn
import HandS.Strs
import PyProof.Rows.SortShellAny
import HandS.Finally
import HandS.More
import HandS.ForDict
import HandS.Small
import HandS.Iter
import HandS.Style
import HandS.TryOnly
import HandS.Text
import HandS.TupSets
import KE.SortKeyHeap
import HandS.SortKw
import HandS.StrMore
import HandS.WordsExc
import PyProof.WalkInts
import KE.KExcSuper
import KE.KExcHand
import HandS.ExcSuper
import HandS.ExcOwn
import HandS.ExcInit
import KE.KExcIs
import HandS.ExcIs
import HandS.DictComp
import KE.DataFind
import KE.SortData
import HandS.TupMul
import KE.KNestM
import PyProof.ListIndex
import HandS.Deep
import PyProof.TupleOfSeq
import PySem.Challenge.RW_stillowed_k02_whole_common_rows
import KE.RegKSuper
import HandS.EndTab
set_option Elab.async false
set_option linter.all false
set_option maxRecDepth 100000
set_option maxHeartbeats 8000000
/-! A layer over HandS: expressions and statements by data, the heap hidden. -/
namespace FD
open PySem L2 Evl

/-! ### hidden objects -/
def hide (M : List Addr) (H : Hp) : Hp := fun a => if a ∈ M then none else H a
section
variable {M M' : List Addr} {H H' : Hp} {a : Addr} {o : HO}
theorem hide_in (h : a ∈ M) : hide M H a = none := if_pos h
theorem hide_out (h : a ∉ M) : hide M H a = H a := if_neg h
theorem hide_some (h : hide M H a = some o) : a ∉ M ∧ H a = some o := by
  by_cases q : a ∈ M
  · rw [hide_in q] at h; cases h
  · rw [hide_out q] at h; exact ⟨q, h⟩
theorem hide_ex (e : Ex H H') : Ex (hide M H) (hide M H') := fun a o h => by
  obtain ⟨q, h⟩ := hide_some h
  rw [hide_out q]; exact e a o h
theorem hide_le : Ex (hide M H) H := fun a o h => (hide_some h).2
theorem hide_sub (s : ∀ a ∈ M, a ∈ M') : Ex (hide M' H) (hide M H) := fun a o h => by
  obtain ⟨q, h⟩ := hide_some h
  rw [hide_out (fun z => q (s a z))]; exact h
theorem hide_upd (h : a ∈ M) : hide M (upd H a o) = hide M H := by
  funext b
  by_cases q : b ∈ M
  · rw [hide_in q, hide_in q]
  · rw [hide_out q, hide_out q, upd_ne (fun z => q (by rw [z]; exact h))]
end

/-! ### data in a heap that grows -/
mutual
theorem dp_mono {K : PySem.W.Frag} {H H' : Hp} (e : Ex H H') : ∀ (d : PyData) (v : V), Dp K H v d → Dp K H' v d
  | .none, _, h => by cases h; exact .non
  | .bool b, _, h => by cases h; exact .bl b
  | .int i, _, h => by cases h; exact .int i
  | .str x, _, h => by cases h; exact .str x
  | .list ds, _, h => by
    cases h with
    | lst hs ha => exact .lst (ex_l e hs) (dpAll_mono e ds _ ha)
  | .tuple ds, _, h => by
    cases h with
    | tup hs ha => exact .tup (ex_t e hs) (dpAll_mono e ds _ ha)
  | .dict _, _, h => by cases h
theorem dpAll_mono {K : PySem.W.Frag} {H H' : Hp} (e : Ex H H') : ∀ (ds : List PyData) (vs : List V), DpAll K H vs ds → DpAll K H' vs ds
  | [], _, h => by cases h; exact .nil
  | d :: ds, _, h => by
    cases h with
    | cons h1 h2 => exact .cons (dp_mono e d _ h1) (dpAll_mono e ds _ h2)
end
end FD
namespace L2
open PySem
section
variable {K : PySem.W.Frag} {H : Hp}
theorem DpAll.length : ∀ {vs : List V} {ds : List PyData}, DpAll K H vs ds → vs.length = ds.length
  | _, _, .nil => rfl
  | _, _, .cons _ t => by rw [List.length_cons, List.length_cons, DpAll.length t]
theorem DpAll.get : ∀ {vs : List V} {ds : List PyData} {i : Nat} {d : PyData}, DpAll K H vs ds → ds[i]? = some d → ∃ v, vs[i]? = some v ∧ Dp K H v d
  | _, _, _, _, .nil, z => by simp at z
  | _, _, 0, _, .cons r0 _, z => by simp at z; subst z; exact ⟨_, rfl, r0⟩
  | _, _, i + 1, d, .cons _ t, e => by
    obtain ⟨u, h1, h2⟩ := DpAll.get (i := i) (d := d) t (by simpa using e)
    exact ⟨u, by simpa using h1, by exact h2⟩
theorem DpAll.append : ∀ {vs ws : List V} {ds es : List PyData}, DpAll K H vs ds → DpAll K H ws es → DpAll K H (vs ++ ws) (ds ++ es)
  | _, _, _, _, .nil, s => s
  | _, _, _, _, .cons r t, s => .cons r (DpAll.append t s)
theorem DpAll.take : ∀ {vs : List V} {ds : List PyData} (n : Nat), DpAll K H vs ds → DpAll K H (vs.take n) (ds.take n)
  | _, _, 0, _ => by rw [List.take_zero, List.take_zero]; exact .nil
  | _, _, _ + 1, .nil => .nil
  | _, _, n + 1, .cons r t => by rw [List.take_succ_cons, List.take_succ_cons]; exact .cons r (DpAll.take n t)
theorem DpAll.drop : ∀ {vs : List V} {ds : List PyData} (n : Nat), DpAll K H vs ds → DpAll K H (vs.drop n) (ds.drop n)
  | _, _, 0, r => r
  | _, _, _ + 1, .nil => .nil
  | _, _, n + 1, .cons _ t => by rw [List.drop_succ_cons, List.drop_succ_cons]; exact DpAll.drop n t
theorem DpAll.set : ∀ {vs : List V} {ds : List PyData} {v : V} {d : PyData} (n : Nat), DpAll K H vs ds → Dp K H v d → DpAll K H (vs.set n v) (ds.set n d)
  | _, _, _, _, _, .nil, _ => .nil
  | _, _, _, _, 0, .cons _ t, q => .cons q t
  | _, _, _, _, n + 1, .cons r t, q => .cons r (DpAll.set n t q)
theorem DpAll.ints : ∀ {vs : List V} {ns : List Int}, DpAll K H vs (ns.map PyData.int) → vs = ns.map V.int
  | _, [], h => by cases h; rfl
  | _, n :: ns, h => by
    cases h with
    | cons h1 h2 =>
      cases h1
      rw [DpAll.ints h2]
      rfl
theorem DpAll.of_ints (ns : List Int) : DpAll K H (ns.map V.int) (ns.map PyData.int) := by
  induction ns with
  | nil => exact .nil
  | cons n ns ih => exact .cons (.int n) ih
theorem Dp.int_of {v : V} {i : Int} (h : Dp K H v (.int i)) : v = .int i := by cases h; rfl
theorem Dp.bool_of {v : V} {i : Bool} (h : Dp K H v (.bool i)) : v = .bl i := by cases h; rfl
theorem Dp.str_of {v : V} {i : Str} (h : Dp K H v (.str i)) : v = .str i := by cases h; rfl
theorem Dp.none_of {v : V} (h : Dp K H v .none) : v = .non := by cases h; rfl
theorem Dp.tup_of {v : V} {ds : List PyData} (h : Dp K H v (.tuple ds)) : ∃ a vs, v = .ref a ∧ SqT K H a vs ∧ DpAll K H vs ds := by
  cases h with
  | tup hs ha => exact ⟨_, _, rfl, hs, ha⟩
theorem Dp.lst_of {v : V} {ds : List PyData} (h : Dp K H v (.list ds)) : ∃ a vs, v = .ref a ∧ SqL K H a vs ∧ DpAll K H vs ds := by
  cases h with
  | lst hs ha => exact ⟨_, _, rfl, hs, ha⟩
end

end L2
namespace FD
open PySem L2 Evl

/-! ### the state of a body: its slots by data, its own lists by address -/
inductive MO where
  | lst (ds : List PyData)
  | dK (kvs : List (Key × PyData))
  /-- the dict while something walks it -/
  | fz (od : Obj) (ws : List (Key × V)) (kvs : List (Key × PyData))
  /-- a dict whose keys are tuples -/
  | dT (kvs : List (List Key × PyData))
  /-- a list of one's own lists -/
  | rl (as : List Addr)
  /-- a table of code objects, all of one name -/
  | tb (q : Str)
  /-- a list of plain rows -/
  | lr (ks : List (List Str))
inductive Ent where
  | d (d : PyData)
  | m (a : Addr)
  /-- a tuple that the program made -/
  | h (ds : List PyData)
  /-- a list that the program made -/
  | l (ds : List PyData)
  /-- a row of texts whose object has no dict; a tuple of such rows -/
  | p (k : List Str)
  | rw (ks : List (List Str))
  /-- a list of such rows that stays as it is -/
  | lr (ks : List (List Str))
  | u
abbrev Mem := List (Addr × MO)
structure Cfg where
  K : PySem.W.Frag
  M0 : List Addr
  G : Hp
  B : Hp
def plO (o : Obj) : Prop := o.cls = .type "tuple" ∧ o.dict = none
def PRow (K : PySem.W.Frag) (Hh : Hp) (k : List Str) (v : V) : Prop := ∃ a, v = .ref a ∧ SqT K Hh a (k.map V.str) ∧ (k ≠ [] → ∃ o, Hh a = some (.frz o (.tup (k.map V.str))) ∧ plO o)
theorem PRow.mono {K : PySem.W.Frag} {H H' : Hp} {k : List Str} {v : V} (x : Ex H H') (h : PRow K H k v) : PRow K H' k v :=
  let ⟨a, e1, e2, e3⟩ := h
  ⟨a, e1, ex_t x e2, fun z => let ⟨o, q1, q2⟩ := e3 z; ⟨o, x a _ q1, q2⟩⟩
/-- a value of a dict: rows of texts are plain -/
def DvOk (K : PySem.W.Frag) (Hh : Hp) (v : V) (d : PyData) : Prop := Dp K Hh v d ∧ ∀ k : List Str, d = .tuple (k.map .str) → PRow K Hh k v
theorem DvOk.mono {K : PySem.W.Frag} {H H' : Hp} {v : V} {d : PyData} (x : Ex H H') (h : DvOk K H v d) : DvOk K H' v d := ⟨dp_mono x d v h.1, fun k e => (h.2 k e).mono x⟩
def MOok (K : PySem.W.Frag) (Hh H : Hp) (a : Addr) : MO → Prop
  | .lst ds => ∃ vs, H a = some (.lst vs) ∧ DpAll K Hh vs ds
  | .dK kvs => ∃ ws, H a = some (.dK ws) ∧ Paired (fun (p : Key × V) (q : Key × PyData) => p.1 = q.1 ∧ DvOk K Hh p.2 q.2) ws kvs
  | .fz od ws kvs => H a = some (.frz od (.dK ws)) ∧ Paired (fun (p : Key × V) (q : Key × PyData) => p.1 = q.1 ∧ DvOk K Hh p.2 q.2) ws kvs
  | .dT kvs => ∃ ws, H a = some (.dT ws) ∧ Paired (fun (p : List Key × V) (q : List Key × PyData) => p.1 = q.1 ∧ Dp K Hh p.2 q.2) ws kvs
  | .rl as => H a = some (.lst (as.map V.ref))
  | .tb q => ∃ ps : Array Value, H a = some (.tbl ps) ∧ TriplesOk ps.toList ∧ ∀ (pos : Pos) (cv : Value), codeAmong pos ps.toList = some cv → ∃ c, cv = .ref c ∧ Hh c = some (LamX.CodeO c q)
  | .lr ks => ∃ vs, H a = some (.lst vs) ∧ Paired (PRow K Hh) ks vs
def EntOk (K : PySem.W.Frag) (Hh : Hp) : Ent → V → Prop
  | .d d, v => Dp K Hh v d
  | .m a, v => v = .ref a
  | .h ds, v => ∃ a vs, v = .ref a ∧ Hh a = some (.tup vs) ∧ DpAll K Hh vs ds
  | .l ds, v => ∃ a vs, v = .ref a ∧ Hh a = some (.lst vs) ∧ DpAll K Hh vs ds
  | .p k, v => PRow K Hh k v
  | .rw ks, v => ∃ a vs, v = .ref a ∧ SqT K Hh a vs ∧ Paired (PRow K Hh) ks vs
  | .lr ks, v => ∃ a vs, v = .ref a ∧ SqL K Hh a vs ∧ Paired (PRow K Hh) ks vs
  | .u, _ => True
theorem EntOk.mono {K : PySem.W.Frag} {H H' : Hp} {e : Ent} {v : V} (x : Ex H H') (h : EntOk K H e v) : EntOk K H' e v := by
  cases e with
  | d d => exact dp_mono x d v h
  | m a => exact h
  | h ds => obtain ⟨a, vs, e1, e2, e3⟩ := h; exact ⟨a, vs, e1, x a _ e2, dpAll_mono x _ _ e3⟩
  | l ds => obtain ⟨a, vs, e1, e2, e3⟩ := h; exact ⟨a, vs, e1, x a _ e2, dpAll_mono x _ _ e3⟩
  | p k => exact PRow.mono x h
  | rw ks => obtain ⟨a, vs, e1, e2, e3⟩ := h; exact ⟨a, vs, e1, ex_t x e2, Paired.mapP e3 fun _ _ q => q.mono x⟩
  | lr ks => obtain ⟨a, vs, e1, e2, e3⟩ := h; exact ⟨a, vs, e1, ex_l x e2, Paired.mapP e3 fun _ _ q => q.mono x⟩
  | u => trivial
theorem MOok.there {K : PySem.W.Frag} {Hh H : Hp} {a : Addr} {m : MO} (h : MOok K Hh H a m) : H a ≠ none := by
  cases m with
  | lst ds => obtain ⟨_, e, _⟩ := h; rw [e]; exact fun z => nomatch z
  | dK ds => obtain ⟨_, e, _⟩ := h; rw [e]; exact fun z => nomatch z
  | fz _ _ _ => obtain ⟨e, _⟩ := h; rw [e]; exact fun z => nomatch z
  | dT _ => obtain ⟨_, e, _⟩ := h; rw [e]; exact fun z => nomatch z
  | rl _ => have e : H a = some _ := h; rw [e]; exact fun z => nomatch z
  | tb _ => obtain ⟨_, e, _⟩ := h; rw [e]; exact fun z => nomatch z
  | lr _ => obtain ⟨_, e, _⟩ := h; rw [e]; exact fun z => nomatch z
theorem MOok.mono {K : PySem.W.Frag} {Hh Hh' H H' : Hp} {a : Addr} {m : MO} (x : Ex Hh Hh') (e : ∀ o, H a = some o → H' a = some o) (h : MOok K Hh H a m) : MOok K Hh' H' a m := by
  cases m with
  | lst ds => obtain ⟨vs, e1, q⟩ := h; exact ⟨vs, e _ e1, dpAll_mono x _ _ q⟩
  | dK ds => obtain ⟨vs, e1, q⟩ := h; exact ⟨vs, e _ e1, Paired.mapP q fun p q z => ⟨z.1, z.2.mono x⟩⟩
  | fz _ _ _ => obtain ⟨e1, q⟩ := h; exact ⟨e _ e1, Paired.mapP q fun p q z => ⟨z.1, z.2.mono x⟩⟩
  | dT _ => obtain ⟨vs, e1, q⟩ := h; exact ⟨vs, e _ e1, Paired.mapP q fun p q z => ⟨z.1, dp_mono x _ _ z.2⟩⟩
  | rl _ => exact e _ h
  | tb _ => obtain ⟨ps, e1, q1, q2⟩ := h; exact ⟨ps, e _ e1, q1, fun pos cv z => let ⟨c, r1, r2⟩ := q2 pos cv z; ⟨c, r1, x c _ r2⟩⟩
  | lr _ => obtain ⟨vs, e1, q⟩ := h; exact ⟨vs, e _ e1, Paired.mapP q fun p q z => z.mono x⟩
end FD
namespace FD
open PySem L2 Evl

structure Ok (C : Cfg) (M : List Addr) (δ : List Ent) (μ : Mem) (σ : L2.St) (H : Hp) : Prop where
  len : σ.length = δ.length
  slot : ∀ (i : Nat) (e : Ent), δ[i]? = some e → e ≠ .u → ∃ v, σ[i]? = some (some v) ∧ EntOk C.K (hide M H) e v
  mem : ∀ p ∈ μ, p.1 ∈ M ∧ C.G p.1 = none ∧ MOok C.K (hide M H) H p.1 p.2
  nd : (μ.map (·.1)).Nodup
  alloc : ∀ a ∈ M, H a ≠ none
  sub : ∀ a ∈ C.M0, a ∈ M
  gr : Ex C.G H
  base : Ex C.B (hide M H)

section
variable {C : Cfg} {M M' : List Addr} {δ δ' δ1 δ2 : List Ent} {μ μ' μ1 μ2 μ3 : Mem} {σ σ' σ1 σ2 : L2.St} {H H' : Hp}
theorem Ok.fresh (o : Ok C M δ μ σ H) {p : Addr} (h : H p = none) : p ∉ M := fun z => o.alloc p z h
/-- the heap grows -/
theorem Ok.grow (o : Ok C M δ μ σ H) (e : Ex H H') : Ok C M δ μ σ H' where
  len := o.len
  slot := fun i x h1 h2 => let ⟨v, a, b⟩ := o.slot i x h1 h2; ⟨v, a, b.mono (hide_ex e)⟩
  mem := fun p hp => let ⟨a, b, c⟩ := o.mem p hp; ⟨a, b, c.mono (hide_ex e) fun u q => e _ u q⟩
  nd := o.nd
  alloc := fun a ha => by
    cases q : H a with
    | none => exact absurd q (o.alloc a ha)
    | some u => rw [e a u q]; exact fun z => nomatch z
  sub := o.sub
  gr := o.gr.trans e
  base := o.base.trans (hide_ex e)
/-- the slots of one state, the lists of a later one -/
theorem Ok.swap (o : Ok C M δ1 μ1 σ1 H) (p : Ok C M δ2 μ2 σ2 H') (e : Ex (hide M H) (hide M H')) : Ok C M δ1 μ2 σ1 H' where
  len := o.len
  slot := fun i x h1 h2 => let ⟨v, a, b⟩ := o.slot i x h1 h2; ⟨v, a, b.mono e⟩
  mem := p.mem
  nd := p.nd
  alloc := p.alloc
  sub := p.sub
  gr := p.gr
  base := p.base
theorem Ok.reB {B : Hp} (o : Ok { C with B := B } M δ μ σ H) (h : Ex C.B B) : Ok C M δ μ σ H where
  len := o.len
  slot := o.slot
  mem := o.mem
  nd := o.nd
  alloc := o.alloc
  sub := o.sub
  gr := o.gr
  base := h.trans o.base
theorem Ok.toB (o : Ok C M δ μ σ H) : Ok { C with B := hide M H } M δ μ σ H where
  len := o.len
  slot := o.slot
  mem := o.mem
  nd := o.nd
  alloc := o.alloc
  sub := o.sub
  gr := o.gr
  base := Ex.refl _
theorem Ok.inB {B : Hp} (o : Ok C M δ μ σ H) (h : Ex B (hide M H)) : Ok { C with B := B } M δ μ σ H where
  len := o.len
  slot := o.slot
  mem := o.mem
  nd := o.nd
  alloc := o.alloc
  sub := o.sub
  gr := o.gr
  base := h
/-- a slot is stored -/
theorem Ok.set (o : Ok C M δ μ σ H) (i : Nat) {e : Ent} {v : V} (r : EntOk C.K (hide M H) e v) : Ok C M (δ.set i e) μ (σ.set i (some v)) H where
  len := by rw [List.length_set, List.length_set]; exact o.len
  slot := fun j x h1 h2 => by
    by_cases q : i = j
    · subst q
      have hl : i < δ.length := by
        have := (List.getElem?_eq_some_iff.mp h1).1
        rw [List.length_set] at this; exact this
      rw [List.getElem?_set_self hl] at h1
      cases h1
      exact ⟨v, by rw [List.getElem?_set_self (by rw [o.len]; exact hl)], r⟩
    · rw [List.getElem?_set_ne q] at h1
      obtain ⟨w, a, b⟩ := o.slot j x h1 h2
      exact ⟨w, by rw [List.getElem?_set_ne q]; exact a, b⟩
  mem := o.mem
  nd := o.nd
  alloc := o.alloc
  sub := o.sub
  gr := o.gr
  base := o.base
/-- slots forgotten -/
theorem Ok.weak (o : Ok C M δ μ σ H) (hl : σ'.length = δ'.length) (h : ∀ (i : Nat) (e : Ent), δ'[i]? = some e → e ≠ .u → δ[i]? = some e ∧ σ'[i]? = σ[i]?) : Ok C M δ' μ σ' H where
  len := hl
  slot := fun i e h1 h2 => by
    obtain ⟨a, b⟩ := h i e h1 h2
    obtain ⟨v, c, d⟩ := o.slot i e a h2
    exact ⟨v, b.trans c, d⟩
  mem := o.mem
  nd := o.nd
  alloc := o.alloc
  sub := o.sub
  gr := o.gr
  base := o.base
/-- hidden objects dropped -/
theorem Ok.drop (o : Ok C M' δ μ σ H) (s : ∀ a ∈ M, a ∈ M') (h : ∀ p ∈ μ, p.1 ∈ M) (h0 : ∀ a ∈ C.M0, a ∈ M) : Ok C M δ μ σ H where
  len := o.len
  slot := fun i x h1 h2 => let ⟨v, a, b⟩ := o.slot i x h1 h2; ⟨v, a, b.mono (hide_sub s)⟩
  mem := fun p hp => let ⟨_, b, c⟩ := o.mem p hp; ⟨h p hp, b, c.mono (hide_sub s) fun _ q => q⟩
  nd := o.nd
  alloc := fun a ha => o.alloc a (s a ha)
  sub := h0
  gr := o.gr
  base := o.base.trans (hide_sub s)
/-- some of the lists are no longer spoken of -/
theorem Ok.mems (o : Ok C M δ μ σ H) (h : ∀ p ∈ μ', p ∈ μ) (nd : (μ'.map (·.1)).Nodup) : Ok C M δ μ' σ H where
  len := o.len
  slot := o.slot
  mem := fun p hp => o.mem p (h p hp)
  nd := nd
  alloc := o.alloc
  sub := o.sub
  gr := o.gr
  base := o.base
theorem nodup_fst {α β : Type} {l : List (α × β)} (hN : (l.map (·.1)).Nodup) {i j : Nat} {a : α} {x y : β} (h1 : l[i]? = some (a, x)) (h2 : l[j]? = some (a, y)) : i = j := by
  have e1 : (l.map (·.1))[i]? = some a := by rw [List.getElem?_map, h1]; rfl
  have e2 : (l.map (·.1))[j]? = some a := by rw [List.getElem?_map, h2]; rfl
  exact L2.nd_ix hN e1 e2
theorem map_set_fst {α β : Type} {l : List (α × β)} {j : Nat} {a : α} {x y : β} (h : l[j]? = some (a, x)) : (l.set j (a, y)).map (·.1) = l.map (·.1) := by
  rw [List.map_set]
  refine List.ext_getElem? fun k => ?_
  by_cases q : j = k
  · subst q
    have hl := (List.getElem?_eq_some_iff.mp h).1
    rw [List.getElem?_set_self (by rw [List.length_map]; exact hl), List.getElem?_map, h]; rfl
  · rw [List.getElem?_set_ne q]
/-- one of the lists is written -/
theorem Ok.write (o : Ok C M δ μ σ H) {j : Nat} {a : Addr} {mo mo' : MO} {ho : HO} (h : μ[j]? = some (a, mo)) (hn : MOok C.K (hide M H) (upd H a ho) a mo') : Ok C M δ (μ.set j (a, mo')) σ (upd H a ho) where
  len := o.len
  slot := fun i x h1 h2 => by
    rw [hide_upd (o.mem _ (List.mem_of_getElem? h)).1]; exact o.slot i x h1 h2
  mem := fun p hp => by
    have ha := o.mem _ (List.mem_of_getElem? h)
    rw [hide_upd ha.1]
    obtain ⟨k, hk⟩ := List.getElem?_of_mem hp
    by_cases q : j = k
    · subst q
      rw [List.getElem?_set_self (List.getElem?_eq_some_iff.mp h).1] at hk
      cases hk
      exact ⟨ha.1, ha.2.1, hn⟩
    · rw [List.getElem?_set_ne q] at hk
      obtain ⟨b1, b2, b3⟩ := o.mem p (List.mem_of_getElem? hk)
      refine ⟨b1, b2, b3.mono (Ex.refl _) fun u e => ?_⟩
      rw [upd_ne (fun z => ?_)]
      · exact e
      · have : (p.1, p.2) = p := rfl
        rw [← this, z] at hk
        exact q (nodup_fst o.nd h hk)
  nd := by rw [map_set_fst h]; exact o.nd
  alloc := fun b hb => by
    by_cases q : b = a
    · subst q; rw [upd_same]; exact fun z => nomatch z
    · rw [upd_ne q]; exact o.alloc b hb
  sub := o.sub
  gr := Ex.mut o.gr (o.mem _ (List.mem_of_getElem? h)).2.1
  base := by rw [hide_upd (o.mem _ (List.mem_of_getElem? h)).1]; exact o.base
theorem hide_new {p : Addr} {o : HO} (h : H p = none) : Ex (hide M H) (hide (p :: M) (upd H p o)) := fun a u e => by
  obtain ⟨q, e⟩ := hide_some e
  have ne : a ≠ p := ne_of_none e h
  rw [hide_out (fun z => (List.mem_cons.mp z).elim ne q), upd_ne ne]; exact e
/-- a new list of one's own -/
theorem Ok.new (o : Ok C M δ μ σ H) {p : Addr} {mo : MO} {ho : HO} (h : H p = none) (hn : MOok C.K (hide (p :: M) (upd H p ho)) (upd H p ho) p mo) : Ok C (p :: M) δ ((p, mo) :: μ) σ (upd H p ho) where
  len := o.len
  slot := fun i x h1 h2 => let ⟨v, a, b⟩ := o.slot i x h1 h2; ⟨v, a, b.mono (hide_new h)⟩
  mem := fun q hq => by
    rcases List.mem_cons.mp hq with e | hq
    · subst e
      refine ⟨List.mem_cons_self, ?_, hn⟩
      cases z : C.G p with
      | none => rfl
      | some u => have := o.gr p u z; rw [h] at this; cases this
    · obtain ⟨b1, b2, b3⟩ := o.mem q hq
      refine ⟨List.mem_cons_of_mem _ b1, b2, b3.mono (hide_new h) fun u e => ?_⟩
      rw [upd_ne (ne_of_none e h)]; exact e
  nd := by
    rw [List.map_cons, List.nodup_cons]
    refine ⟨fun z => ?_, o.nd⟩
    obtain ⟨q, hq, e⟩ := List.mem_map.mp z
    have := (o.mem q hq).2.2.there
    rw [show q.1 = p from e] at this
    exact this h
  alloc := fun b hb => by
    rcases List.mem_cons.mp hb with e | hb
    · subst e; rw [upd_same]; exact fun z => nomatch z
    · have ne : b ≠ p := fun z => o.alloc b hb (z ▸ h)
      rw [upd_ne ne]; exact o.alloc b hb
  sub := fun a ha => List.mem_cons_of_mem _ (o.sub a ha)
  gr := o.gr.trans (Ex.new h)
  base := o.base.trans (hide_new h)
end

/-! ### judgements -/
def EvX (C : Cfg) (te : TE) (M : List Addr) (δ : List Ent) (μ μ' : Mem) (e : Ent) : Prop := ∀ σ H, Ok C M δ μ σ H → ∀ Q : VK, (∀ v H', Ok C M δ μ' σ H' → Ex (hide M H) (hide M H') → EntOk C.K (hide M H') e v → Q v H') → te σ H Q
def EvT (C : Cfg) (tt : TT) (M : List Addr) (δ : List Ent) (μ μ' : Mem) (b : Bool) : Prop := ∀ σ H, Ok C M δ μ σ H → ∀ Q : Bool → Hp → Prop, (∀ H', Ok C M δ μ' σ H' → Ex (hide M H) (hide M H') → Q b H') → tt σ H Q
def EvA (C : Cfg) (ta : TA) (M : List Addr) (δ : List Ent) (μ μ' : Mem) (es : List Ent) : Prop := ∀ σ H, Ok C M δ μ σ H → ∀ Q : List V → Hp → Prop, (∀ vs H', Ok C M δ μ' σ H' → Ex (hide M H) (hide M H') → Paired (EntOk C.K (hide M H')) es vs → Q vs H') → ta σ H Q
def EvO (C : Cfg) (to : TO) (M : List Addr) (δ : List Ent) (μ μ' : Mem) (o : Option Int) : Prop := ∀ σ H, Ok C M δ μ σ H → ∀ Q : Option Int → Hp → Prop, (∀ H', Ok C M δ μ' σ H' → Ex (hide M H) (hide M H') → Q o H') → to σ H Q
def OpX (C : Cfg) (r : R2) (M : List Addr) (δ : List Ent) (μ μ' : Mem) (e1 e2 e3 : Ent) : Prop := ∀ σ H x y, Ok C M δ μ σ H → EntOk C.K (hide M H) e1 x → EntOk C.K (hide M H) e2 y → ∀ Q : VK, (∀ v H', Ok C M δ μ' σ H' → Ex (hide M H) (hide M H') → EntOk C.K (hide M H') e3 v → Q v H') → r x y H Q
def CallX (C : Cfg) (r : List V → Hp → VK → Prop) (M : List Addr) (δ : List Ent) (μ μ' : Mem) (es : List Ent) (e : Ent) : Prop := ∀ σ H vs, Ok C M δ μ σ H → Paired (EntOk C.K (hide M H)) es vs → ∀ Q : VK, (∀ v H', Ok C M δ μ' σ H' → Ex (hide M H) (hide M H') → EntOk C.K (hide M H') e v → Q v H') → r vs H Q
/-- what an entry reads as just now -/
inductive Rdd (μ : Mem) : Ent → PyData → Prop
  | d (d : PyData) : Rdd μ (.d d) d
  | m {j : Nat} {a : Addr} {ds : List PyData} : μ[j]? = some (a, .lst ds) → Rdd μ (.m a) (.list ds)
section
variable {C : Cfg} {M M' : List Addr} {δ δ' δ1 δ2 : List Ent} {μ μ' μ1 μ2 μ3 : Mem} {σ σ' σ1 σ2 : L2.St} {H H' : Hp} {e e1 e2 e3 : Ent} {ta tb te tc : TE} {t u : TT}
theorem Rdd.dp {x : PyData} (r : Rdd μ e x) (o : Ok C M δ μ σ H) {v : V} (h : EntOk C.K (hide M H) e v) : Dp C.K H v x := by
  cases r with
  | d _ => exact dp_mono hide_le x v h
  | m hj =>
    have h' : v = _ := h
    subst h'
    obtain ⟨_, _, vs, e1, q⟩ := o.mem _ (List.mem_of_getElem? hj)
    exact .lst (SqL.of e1) (dpAll_mono hide_le _ _ q)
/-- .. as a list or tuple whose items are data -/
theorem Rdd.lst {ds : List PyData} (r : Rdd μ e (.list ds)) (o : Ok C M δ μ σ H) {v : V} (h : EntOk C.K (hide M H) e v) : ∃ a vs, v = .ref a ∧ SqL C.K H a vs ∧ DpAll C.K (hide M H) vs ds := by
  cases r with
  | d _ =>
    obtain ⟨a, vs, e1, e2, e3⟩ := Dp.lst_of h
    exact ⟨a, vs, e1, ex_l hide_le e2, e3⟩
  | m hj =>
    have h' : v = _ := h
    obtain ⟨_, _, vs, e1, q⟩ := o.mem _ (List.mem_of_getElem? hj)
    exact ⟨_, vs, h', SqL.of e1, q⟩
theorem x_is (h : EvX C te M δ μ μ' e) (q : e = e1) : EvX C te M δ μ μ' e1 := by rw [← q]; exact h
theorem x_var {i : Nat} (h : δ[i]? = some e) (hu : e ≠ .u) : EvX C (tVar i) M δ μ μ e := fun σ H o Q k =>
  let ⟨v, a, b⟩ := o.slot i e h hu
  ⟨v, a, k v H o (Ex.refl _) b⟩
theorem x_vd {i : Nat} {d : PyData} (h : δ[i]? = some (.d d)) : EvX C (tVar i) M δ μ μ (.d d) := x_var h (fun z => nomatch z)
theorem x_vm {i : Nat} {a : Addr} (h : δ[i]? = some (.m a)) : EvX C (tVar i) M δ μ μ (.m a) := x_var h (fun z => nomatch z)
theorem x_int {i : Int} : EvX C (tC (.int i)) M δ μ μ (.d (.int i)) := fun σ H o Q k => k _ H o (Ex.refl _) (.int i)
theorem x_bl {i : Bool} : EvX C (tC (.bl i)) M δ μ μ (.d (.bool i)) := fun σ H o Q k => k _ H o (Ex.refl _) (.bl i)
theorem x_str {i : Str} : EvX C (tC (.str i)) M δ μ μ (.d (.str i)) := fun σ H o Q k => k _ H o (Ex.refl _) (.str i)
theorem x_non : EvX C (tC .non) M δ μ μ (.d .none) := fun σ H o Q k => k _ H o (Ex.refl _) .non
theorem x_op {r : R2} (ha : EvX C ta M δ μ μ1 e1) (hb : EvX C tb M δ μ1 μ2 e2) (hr : OpX C r M δ μ2 μ3 e1 e2 e3) : EvX C (tOp r ta tb) M δ μ μ3 e3 := fun σ H o Q k =>
  ha σ H o _ fun x H1 o1 x1 r1 => hb σ H1 o1 _ fun y H2 o2 x2 r2 => hr σ H2 x y o2 (r1.mono x2) r2 Q fun v H3 o3 x3 r3 => k v H3 o3 ((x1.trans x2).trans x3) r3
theorem x_un {r : V → Hp → VK → Prop} (ha : EvX C ta M δ μ μ1 e1) (hr : ∀ σ H x, Ok C M δ μ1 σ H → EntOk C.K (hide M H) e1 x → ∀ Q : VK, (∀ v H', Ok C M δ μ2 σ H' → Ex (hide M H) (hide M H') → EntOk C.K (hide M H') e3 v → Q v H') → r x H Q) : EvX C (tUn r ta) M δ μ μ2 e3 := fun σ H o Q k =>
  ha σ H o _ fun x H1 o1 x1 r1 => hr σ H1 x o1 r1 Q fun v H3 o3 x3 r3 => k v H3 o3 (x1.trans x3) r3
theorem x_neg {i : Int} (ha : EvX C ta M δ μ μ1 (.d (.int i))) : EvX C (tUn (rU fun i => .int (-i)) ta) M δ μ μ1 (.d (.int (-i))) :=
  x_un ha fun σ H x o h Q k => ⟨i, Dp.int_of h, k _ H o (Ex.refl _) (.int _)⟩
theorem o_I0 {g : Int → Int → Int} {i j : Int} : OpX C (rI0 fun i j => .int (g i j)) M δ μ μ (.d (.int i)) (.d (.int j)) (.d (.int (g i j))) := fun σ H x y o h1 h2 Q k =>
  ⟨i, j, Dp.int_of h1, Dp.int_of h2, k _ H o (Ex.refl _) (.int _)⟩
theorem o_B0 {g : Int → Int → Bool} {i j : Int} : OpX C (rI0 fun i j => .bl (g i j)) M δ μ μ (.d (.int i)) (.d (.int j)) (.d (.bool (g i j))) := fun σ H x y o h1 h2 Q k =>
  ⟨i, j, Dp.int_of h1, Dp.int_of h2, k _ H o (Ex.refl _) (.bl _)⟩
theorem o_I {c : Int → Int → Prop} {g : Int → Int → Int} {i j : Int} (hc : c i j) : OpX C (rI c fun i j => .int (g i j)) M δ μ μ (.d (.int i)) (.d (.int j)) (.d (.int (g i j))) := fun σ H x y o h1 h2 Q k =>
  ⟨i, j, Dp.int_of h1, Dp.int_of h2, hc, k _ H o (Ex.refl _) (.int _)⟩
theorem o_eqD {d1 d2 : PyData} (r1 : Rdd μ e1 d1) (r2 : Rdd μ e2 d2) (s1 : SeqAt.shaped d1 = true) (s2 : SeqAt.shaped d2 = true) : OpX C (rEqD C.K) M δ μ μ e1 e2 (.d (.bool (PyData.eqv d1 d2))) := fun σ H x y o h1 h2 Q k =>
  ⟨d1, d2, r1.dp o h1, r2.dp o h2, s1, s2, k _ H o (Ex.refl _) (.bl _)⟩
theorem o_neD {d1 d2 : PyData} (r1 : Rdd μ e1 d1) (r2 : Rdd μ e2 d2) (s1 : SeqAt.shaped d1 = true) (s2 : SeqAt.shaped d2 = true) : OpX C (rNeD C.K) M δ μ μ e1 e2 (.d (.bool (!PyData.eqv d1 d2))) := fun σ H x y o h1 h2 Q k =>
  ⟨d1, d2, r1.dp o h1, r2.dp o h2, s1, s2, k _ H o (Ex.refl _) (.bl _)⟩
theorem at_dp {K : PySem.W.Frag} {Hh : Hp} {vs : List V} {ds : List PyData} {i : Int} {d : PyData} (h : DpAll K Hh vs ds) (ha : atI ds i = some d) : ∃ v, atI vs i = some v ∧ Dp K Hh v d := by
  unfold atI at ha ⊢
  rw [DpAll.length h]
  cases q : ixN ds.length i with
  | none => rw [q] at ha; cases ha
  | some j =>
    rw [q] at ha
    exact h.get ha
theorem o_ixL {i : Int} {ds : List PyData} {d : PyData} (r : Rdd μ e1 (.list ds)) (ha : atI ds i = some d) : OpX C (rIxL C.K) M δ μ μ e1 (.d (.int i)) (.d d) := fun σ H x y o h1 h2 Q k => by
  obtain ⟨a, vs, q1, q2, q3⟩ := r.lst o h1
  obtain ⟨v, q4, q5⟩ := at_dp q3 ha
  exact ⟨a, vs, i, v, q1, Dp.int_of h2, q2, q4, k _ H o (Ex.refl _) q5⟩
theorem o_ixT {i : Int} {ds : List PyData} {d : PyData} (ha : atI ds i = some d) : OpX C (rIxT C.K) M δ μ μ (.d (.tuple ds)) (.d (.int i)) (.d d) := fun σ H x y o h1 h2 Q k => by
  obtain ⟨a, vs, q1, q2, q3⟩ := Dp.tup_of h1
  obtain ⟨v, q4, q5⟩ := at_dp q3 ha
  exact ⟨a, vs, i, v, q1, Dp.int_of h2, ex_t hide_le q2, q4, k _ H o (Ex.refl _) q5⟩
theorem dpAll_nil {K : PySem.W.Frag} {H : Hp} {vs : List V} {ds : List PyData} (h : DpAll K H vs ds) : vs = [] ↔ ds = [] := by
  cases h with
  | nil => simp
  | cons _ _ => simp
/-- a new tracked tuple -/
theorem Ok.tup (o : Ok C M δ μ σ H) {p : Addr} {vs : List V} {ds : List PyData} (hp : H p = none) (h : DpAll C.K (hide M H) vs ds) : Ok C M δ μ σ (upd H p (.tup vs)) ∧ Ex (hide M H) (hide M (upd H p (.tup vs))) ∧ Dp C.K (hide M (upd H p (.tup vs))) (.ref p) (.tuple ds) := by
  have e : Ex H (upd H p (.tup vs)) := Ex.new hp
  refine ⟨o.grow e, hide_ex e, .tup (st_of ?_) (dpAll_mono (hide_ex e) _ _ h)⟩
  rw [hide_out (o.fresh hp), upd_same]
theorem Ok.lst (o : Ok C M δ μ σ H) {p : Addr} {vs : List V} {ds : List PyData} (hp : H p = none) (h : DpAll C.K (hide M H) vs ds) : Ok C M δ μ σ (upd H p (.lst vs)) ∧ Ex (hide M H) (hide M (upd H p (.lst vs))) ∧ Dp C.K (hide M (upd H p (.lst vs))) (.ref p) (.list ds) := by
  have e : Ex H (upd H p (.lst vs)) := Ex.new hp
  refine ⟨o.grow e, hide_ex e, .lst (sq_of ?_) (dpAll_mono (hide_ex e) _ _ h)⟩
  rw [hide_out (o.fresh hp), upd_same]
theorem o_catT {ds es : List PyData} (hz : ds.length + es.length ≤ 100000) : OpX C (rCatA C.K) M δ μ μ (.d (.tuple ds)) (.d (.tuple es)) (.d (.tuple (ds ++ es))) := fun σ H x y o h1 h2 Q k => by
  obtain ⟨a, vs, q1, q2, q3⟩ := Dp.tup_of h1
  obtain ⟨b, ws, p1, p2, p3⟩ := Dp.tup_of h2
  refine ⟨a, b, vs, ws, q1, p1, ex_t hide_le q2, ex_t hide_le p2, ?_, fun z => ?_, fun z1 z2 => ?_, fun z1 z2 p hp => ?_⟩
  · rw [q3.length, p3.length]; exact sz_of hz
  · have z' := (dpAll_nil q3).mp z
    subst z'
    refine k _ H o (Ex.refl _) ?_
    rw [← p1]; exact h2
  · have z' := (dpAll_nil p3).mp z2
    subst z'
    refine k _ H o (Ex.refl _) ?_
    rw [← q1, List.append_nil]; exact h1
  · obtain ⟨o', x', d'⟩ := o.tup hp (q3.append p3)
    exact k _ _ o' x' d'
def isNon : PyData → Bool
  | .none => true
  | _ => false
theorem o_isN {d : PyData} : OpX C (fun x y H Q => y = .non ∧ Q (.bl (decide (x = .non))) H) M δ μ μ (.d d) (.d .none) (.d (.bool (isNon d))) := fun σ H x y o h1 h2 Q k => by
  refine ⟨Dp.none_of h2, k _ H o (Ex.refl _) ?_⟩
  have e : decide (x = .non) = isNon d := by
    cases d <;> cases h1 <;> simp [isNon]
  rw [e]; exact .bl _
theorem o_notN {d : PyData} : OpX C (fun x y H Q => y = .non ∧ Q (.bl (!decide (x = .non))) H) M δ μ μ (.d d) (.d .none) (.d (.bool (!isNon d))) := fun σ H x y o h1 h2 Q k => by
  refine ⟨Dp.none_of h2, k _ H o (Ex.refl _) ?_⟩
  have e : decide (x = .non) = isNon d := by
    cases d <;> cases h1 <;> simp [isNon]
  rw [e]; exact .bl _

/-! ### arguments, displays -/
theorem a_nil : EvA C tNil M δ μ μ [] := fun σ H o Q k => k [] H o (Ex.refl _) .nil
theorem entsMono {K : PySem.W.Frag} {H H' : Hp} (x : Ex H H') {es : List Ent} {vs : List V} (h : Paired (EntOk K H) es vs) : Paired (EntOk K H') es vs := Paired.mapP h fun _ _ q => q.mono x
theorem a_cons {tr : TA} {es : List Ent} (h : EvX C ta M δ μ μ1 e) (hr : EvA C tr M δ μ1 μ2 es) : EvA C (tCons ta tr) M δ μ μ2 (e :: es) := fun σ H o Q k =>
  h σ H o _ fun v H1 o1 x1 r1 => hr σ H1 o1 _ fun vs H2 o2 x2 r2 => k (v :: vs) H2 o2 (x1.trans x2) (.cons (r1.mono x2) r2)
theorem dpAll_of {K : PySem.W.Frag} {H : Hp} : ∀ {ds : List PyData} {vs : List V}, Paired (EntOk K H) (ds.map Ent.d) vs → DpAll K H vs ds
  | [], _, h => by cases h; exact .nil
  | d :: ds, _, h => by
    cases h with
    | cons h1 h2 => exact .cons h1 (dpAll_of h2)
theorem x_tup {tr : TA} {ds : List PyData} (h : EvA C tr M δ μ μ' (ds.map Ent.d)) (hl : ds.length ≤ 100000) : EvX C (tTup tr) M δ μ μ' (.d (.tuple ds)) := fun σ H o Q k =>
  h σ H o _ fun vs H1 o1 x1 r1 => ⟨by have := (dpAll_of r1).length; rw [this]; exact sz_of hl, fun p hp => by
    obtain ⟨o', x', d'⟩ := o1.tup hp (dpAll_of r1)
    exact k _ _ o' (x1.trans x') d'⟩
theorem x_lst {tr : TA} {ds : List PyData} (h : EvA C tr M δ μ μ' (ds.map Ent.d)) (hl : ds.length ≤ 100000) : EvX C (tLst tr) M δ μ μ' (.d (.list ds)) := fun σ H o Q k =>
  h σ H o _ fun vs H1 o1 x1 r1 => ⟨by have := (dpAll_of r1).length; rw [this]; exact sz_of hl, fun p hp => by
    obtain ⟨o', x', d'⟩ := o1.lst hp (dpAll_of r1)
    exact k _ _ o' (x1.trans x') d'⟩
/-! ### calls of built-ins -/
theorem x_cb {r : List V → Hp → VK → Prop} {tr : TA} {es : List Ent} (h : EvA C tr M δ μ μ1 es) (hr : CallX C r M δ μ1 μ2 es e) : EvX C (tCB r tr) M δ μ μ2 e := fun σ H o Q k =>
  h σ H o _ fun vs H1 o1 x1 r1 => hr σ H1 vs o1 r1 Q fun v H2 o2 x2 r2 => k v H2 o2 (x1.trans x2) r2
theorem p1 {α β : Type} {F : α → β → Prop} {a : α} {bs : List β} (h : Paired F [a] bs) : ∃ b, bs = [b] ∧ F a b := by
  cases h with
  | cons h1 h2 => cases h2; exact ⟨_, rfl, h1⟩
theorem p2 {α β : Type} {F : α → β → Prop} {a a' : α} {bs : List β} (h : Paired F [a, a'] bs) : ∃ b b', bs = [b, b'] ∧ F a b ∧ F a' b' := by
  cases h with
  | cons h1 h2 => obtain ⟨b, rfl, q⟩ := p1 h2; exact ⟨_, _, rfl, h1, q⟩
theorem c_abs {i : Int} : CallX C (fun xs H Q => ∃ i, xs = [.int i] ∧ Q (.int (if i < 0 then -i else i)) H) M δ μ μ [.d (.int i)] (.d (.int (if i < 0 then -i else i))) := fun σ H vs o h Q k => by
  obtain ⟨v, rfl, q⟩ := p1 h
  exact ⟨i, by rw [Dp.int_of q], k _ H o (Ex.refl _) (.int _)⟩
theorem c_max2 {i j : Int} : CallX C (fun xs H Q => ∃ i j, xs = [.int i, .int j] ∧ Q (.int (if j > i then j else i)) H) M δ μ μ [.d (.int i), .d (.int j)] (.d (.int (if j > i then j else i))) := fun σ H vs o h Q k => by
  obtain ⟨v, w, rfl, q, q'⟩ := p2 h
  exact ⟨i, j, by rw [Dp.int_of q, Dp.int_of q'], k _ H o (Ex.refl _) (.int _)⟩
theorem c_min2 {i j : Int} : CallX C (fun xs H Q => ∃ i j, xs = [.int i, .int j] ∧ Q (.int (if j < i then j else i)) H) M δ μ μ [.d (.int i), .d (.int j)] (.d (.int (if j < i then j else i))) := fun σ H vs o h Q k => by
  obtain ⟨v, w, rfl, q, q'⟩ := p2 h
  exact ⟨i, j, by rw [Dp.int_of q, Dp.int_of q'], k _ H o (Ex.refl _) (.int _)⟩
theorem c_intI {i : Int} : CallX C (fun xs H Q => (∃ i, xs = [.int i] ∧ Q (.int i) H) ∨ ∃ k, xs = [.bl k] ∧ Q (.int (if k then 1 else 0)) H) M δ μ μ [.d (.int i)] (.d (.int i)) := fun σ H vs o h Q k => by
  obtain ⟨v, rfl, q⟩ := p1 h
  exact .inl ⟨i, by rw [Dp.int_of q], k _ H o (Ex.refl _) (.int _)⟩
theorem c_intB {b : Bool} : CallX C (fun xs H Q => (∃ i, xs = [.int i] ∧ Q (.int i) H) ∨ ∃ k, xs = [.bl k] ∧ Q (.int (if k then 1 else 0)) H) M δ μ μ [.d (.bool b)] (.d (.int (if b then 1 else 0))) := fun σ H vs o h Q k => by
  obtain ⟨v, rfl, q⟩ := p1 h
  exact .inr ⟨b, by rw [Dp.bool_of q], k _ H o (Ex.refl _) (.int _)⟩
abbrev rLenS (K : PySem.W.Frag) : List V → Hp → VK → Prop := fun xs H Q => ∃ p ys, xs = [.ref p] ∧ (SqL K H p ys ∨ SqT K H p ys) ∧ Q (.int ys.length) H
theorem c_lenL {ds : List PyData} (r : Rdd μ e (.list ds)) : CallX C (rLenS C.K) M δ μ μ [e] (.d (.int (ds.length : Int))) := fun σ H vs o h Q k => by
  obtain ⟨v, rfl, q⟩ := p1 h
  obtain ⟨a, ws, q1, q2, q3⟩ := r.lst o q
  refine ⟨a, ws, by rw [q1], .inl q2, k _ H o (Ex.refl _) ?_⟩
  rw [q3.length]; exact .int _
theorem c_lenT {ds : List PyData} : CallX C (rLenS C.K) M δ μ μ [.d (.tuple ds)] (.d (.int (ds.length : Int))) := fun σ H vs o h Q k => by
  obtain ⟨v, rfl, q⟩ := p1 h
  obtain ⟨a, ws, q1, q2, q3⟩ := Dp.tup_of q
  refine ⟨a, ws, by rw [q1], .inr (ex_t hide_le q2), k _ H o (Ex.refl _) ?_⟩
  rw [q3.length]; exact .int _
theorem c_sum {ns : List Int} (r : Rdd μ e (.list (ns.map .int))) : CallX C (rSum C.K) M δ μ μ [e] (.d (.int ns.sum)) := fun σ H vs o h Q k => by
  obtain ⟨v, rfl, q⟩ := p1 h
  obtain ⟨a, ws, q1, q2, q3⟩ := r.lst o q
  rw [q3.ints] at q2
  exact ⟨a, ns, by rw [q1], q2, k _ H o (Ex.refl _) (.int _)⟩
theorem c_minI {ns : List Int} {m : Int} (r : Rdd μ e (.list (ns.map .int))) (hm : m ∈ ns) (hl : ∀ y ∈ ns, m ≤ y) : CallX C (rMin C.K) M δ μ μ [e] (.d (.int m)) := fun σ H vs o h Q k => by
  obtain ⟨v, rfl, q⟩ := p1 h
  obtain ⟨a, ws, q1, q2, q3⟩ := r.lst o q
  rw [q3.ints] at q2
  refine ⟨a, ns, by rw [q1], q2, List.length_pos_of_mem hm, fun m' h1 h2 => ?_⟩
  have e : m' = m := Int.le_antisymm (h2 m hm) (hl m' h1)
  subst e
  exact k _ H o (Ex.refl _) (.int _)
theorem c_maxI {ns : List Int} {m : Int} (r : Rdd μ e (.list (ns.map .int))) (hm : m ∈ ns) (hl : ∀ y ∈ ns, y ≤ m) : CallX C (rMax C.K) M δ μ μ [e] (.d (.int m)) := fun σ H vs o h Q k => by
  obtain ⟨v, rfl, q⟩ := p1 h
  obtain ⟨a, ws, q1, q2, q3⟩ := r.lst o q
  rw [q3.ints] at q2
  refine ⟨a, ns, by rw [q1], q2, List.length_pos_of_mem hm, fun m' h1 h2 => ?_⟩
  have e : m' = m := Int.le_antisymm (hl m' h1) (h2 m hm)
  subst e
  exact k _ H o (Ex.refl _) (.int _)
abbrev rTupleS (K : PySem.W.Frag) : List V → Hp → VK → Prop := fun xs H Q => ∃ p ys, xs = [.ref p] ∧ ((SqL K H p ys ∧ ∀ l, H l = none → Q (.ref l) (upd H l (.tup ys))) ∨ (SqT K H p ys ∧ Q (.ref p) H))
theorem c_tupleL {ds : List PyData} (r : Rdd μ e (.list ds)) : CallX C (rTupleS C.K) M δ μ μ [e] (.d (.tuple ds)) := fun σ H vs o h Q k => by
  obtain ⟨v, rfl, q⟩ := p1 h
  obtain ⟨a, ws, q1, q2, q3⟩ := r.lst o q
  refine ⟨a, ws, by rw [q1], .inl ⟨q2, fun l hl => ?_⟩⟩
  obtain ⟨o', x', d'⟩ := o.tup hl q3
  exact k _ _ o' x' d'
end
end FD
namespace FD
open PySem L2 Evl
section
variable {C : Cfg} {M M' : List Addr} {δ δ' δ1 δ2 : List Ent} {μ μ' μ1 μ2 μ3 : Mem} {σ σ' σ1 σ2 : L2.St} {H H' : Hp} {e e1 e2 e3 : Ent} {ta tb te tc : TE} {t u : TT} {b c : Bool}
/-! ### tests -/
theorem t_is (h : EvT C t M δ μ μ' b) (q : b = c) : EvT C t M δ μ μ' c := by rw [← q]; exact h
theorem t_test (h : EvX C te M δ μ μ' (.d (.bool b))) : EvT C (tTest te) M δ μ μ' b := fun σ H o Q k => h σ H o _ fun v H' o' x r => ⟨b, Dp.bool_of r, k H' o' x⟩
theorem t_B (h : EvX C te M δ μ μ' (.d (.bool b))) : EvT C (tB te) M δ μ μ' b := fun σ H o Q k => h σ H o _ fun v H' o' x r => ⟨b, Dp.bool_of r, k H' o' x⟩
theorem t_not (h : EvT C t M δ μ μ' b) : EvT C (tNot t) M δ μ μ' (!b) := fun σ H o Q k => h σ H o _ fun H' o' x => k H' o' x
theorem t_yes : EvT C tYes M δ μ μ true := fun σ H o Q k => k H o (Ex.refl _)
/-- the second where the first holds; where it does not, the lists stand as behind the first -/
theorem t_and (h1 : EvT C t M δ μ μ1 b) (h2 : b = true → EvT C u M δ μ1 μ2 c) (h3 : b = false → μ1 = μ2) : EvT C (tAnd t u) M δ μ μ2 (b && c) := fun σ H o Q k => h1 σ H o _ fun H1 o1 x1 => by
  cases b with
  | true =>
    show u σ H1 Q
    exact h2 rfl σ H1 o1 Q fun H2 o2 x2 => k H2 o2 (x1.trans x2)
  | false =>
    show Q false H1
    have := h3 rfl
    subst this
    exact k H1 o1 x1
theorem t_or (h1 : EvT C t M δ μ μ1 b) (h2 : b = false → EvT C u M δ μ1 μ2 c) (h3 : b = true → μ1 = μ2) : EvT C (tOr t u) M δ μ μ2 (b || c) := fun σ H o Q k => h1 σ H o _ fun H1 o1 x1 => by
  cases b with
  | false =>
    show u σ H1 Q
    exact h2 rfl σ H1 o1 Q fun H2 o2 x2 => k H2 o2 (x1.trans x2)
  | true =>
    show Q true H1
    have := h3 rfl
    subst this
    exact k H1 o1 x1
theorem x_if (h : EvT C t M δ μ μ1 b) (h1 : b = true → EvX C ta M δ μ1 μ2 e) (h2 : b = false → EvX C tb M δ μ1 μ2 e) : EvX C (tIf t ta tb) M δ μ μ2 e := fun σ H o Q k => h σ H o _ fun H1 o1 x1 => by
  cases b with
  | true =>
    show ta σ H1 Q
    exact h1 rfl σ H1 o1 Q fun v H2 o2 x2 r => k v H2 o2 (x1.trans x2) r
  | false =>
    show tb σ H1 Q
    exact h2 rfl σ H1 o1 Q fun v H2 o2 x2 r => k v H2 o2 (x1.trans x2) r
theorem x_if2 {d1 d2 : PyData} (h : EvT C t M δ μ μ1 b) (h1 : EvX C ta M δ μ1 μ2 (.d d1)) (h2 : EvX C tb M δ μ1 μ2 (.d d2)) : EvX C (tIf t ta tb) M δ μ μ2 (.d (if b = true then d1 else d2)) :=
  x_if h (fun q => by rw [if_pos q]; exact h1) (fun q => by rw [if_neg (by rw [q]; decide)]; exact h2)
/-- or, and as values -/
theorem x_orV (h1 : EvX C ta M δ μ μ1 (.d (.bool b))) (h2 : b = false → EvX C tb M δ μ1 μ2 (.d (.bool c))) (h3 : b = true → μ1 = μ2) : EvX C (tOrV ta tb) M δ μ μ2 (.d (.bool (b || c))) := fun σ H o Q k => h1 σ H o _ fun v H1 o1 x1 r => ⟨b, Dp.bool_of r, by
  cases b with
  | false =>
    show tb σ H1 Q
    exact h2 rfl σ H1 o1 Q fun v H2 o2 x2 r => k v H2 o2 (x1.trans x2) r
  | true =>
    show Q (.bl true) H1
    have := h3 rfl
    subst this
    exact k _ H1 o1 x1 (.bl true)⟩
theorem x_andV (h1 : EvX C ta M δ μ μ1 (.d (.bool b))) (h2 : b = true → EvX C tb M δ μ1 μ2 (.d (.bool c))) (h3 : b = false → μ1 = μ2) : EvX C (tAndV ta tb) M δ μ μ2 (.d (.bool (b && c))) := fun σ H o Q k => h1 σ H o _ fun v H1 o1 x1 r => ⟨b, Dp.bool_of r, by
  cases b with
  | true =>
    show tb σ H1 Q
    exact h2 rfl σ H1 o1 Q fun v H2 o2 x2 r => k v H2 o2 (x1.trans x2) r
  | false =>
    show Q (.bl false) H1
    have := h3 rfl
    subst this
    exact k _ H1 o1 x1 (.bl false)⟩
theorem x_notV (h1 : EvX C ta M δ μ μ1 (.d (.bool b))) : EvX C (tNotV ta) M δ μ μ1 (.d (.bool (!b))) := fun σ H o Q k => h1 σ H o _ fun v H1 o1 x1 r => ⟨b, Dp.bool_of r, k _ H1 o1 x1 (.bl _)⟩

/-! ### slices -/
def cutD (xs : List PyData) (lo hi : Option Int) : List PyData := (xs.drop (HT.sIx xs.length 0 lo)).take (HT.sIx xs.length xs.length hi - HT.sIx xs.length 0 lo)
theorem cut_dp {K : PySem.W.Frag} {Hh : Hp} {vs : List V} {ds : List PyData} (h : DpAll K Hh vs ds) (lo hi : Option Int) : DpAll K Hh (cutV vs lo hi) (cutD ds lo hi) := by
  unfold cutV cutD
  rw [h.length]
  exact (h.drop _).take _
theorem p_none : EvO C tNoPart M δ μ μ none := fun σ H o Q k => k H o (Ex.refl _)
theorem p_some {i : Int} (h : EvX C te M δ μ μ' (.d (.int i))) : EvO C (tPart te) M δ μ μ' (some i) := fun σ H o Q k => h σ H o _ fun v H1 o1 x1 r => ⟨i, Dp.int_of r, k H1 o1 x1⟩
theorem cutD_whole {ds : List PyData} {lo hi : Option Int} (h : HT.sIx ds.length 0 lo = 0 ∧ HT.sIx ds.length ds.length hi = ds.length) : cutD ds lo hi = ds := by
  unfold cutD
  rw [h.1, h.2, List.drop_zero, Nat.sub_zero, List.take_length]
theorem x_slT {tl th : TO} {ds : List PyData} {lo hi : Option Int} (h : EvX C te M δ μ μ1 (.d (.tuple ds))) (hl : EvO C tl M δ μ1 μ2 lo) (hh : EvO C th M δ μ2 μ3 hi) : EvX C (tSl (rSlA C.K) te tl th) M δ μ μ3 (.d (.tuple (cutD ds lo hi))) := fun σ H o Q k =>
  h σ H o _ fun v H1 o1 x1 r1 => hl σ H1 o1 _ fun H2 o2 x2 => hh σ H2 o2 _ fun H3 o3 x3 => by
    obtain ⟨a, vs, q1, q2, q3⟩ := Dp.tup_of (EntOk.mono (e := .d (.tuple ds)) (x2.trans x3) r1)
    refine ⟨a, vs, q1, ex_t hide_le q2, fun hw => ?_, fun _ p hp => ?_⟩
    · refine k _ H3 o3 ((x1.trans x2).trans x3) ?_
      rw [q3.length] at hw
      rw [cutD_whole hw, ← q1]
      exact EntOk.mono (e := .d (.tuple ds)) (x2.trans x3) r1
    · obtain ⟨o', x', d'⟩ := o3.tup hp (cut_dp q3 lo hi)
      exact k _ _ o' (((x1.trans x2).trans x3).trans x') d'
theorem x_slL {tl th : TO} {ds : List PyData} {lo hi : Option Int} (h : EvX C te M δ μ μ1 e) (hl : EvO C tl M δ μ1 μ2 lo) (hh : EvO C th M δ μ2 μ3 hi) (r : Rdd μ3 e (.list ds)) : EvX C (tSl (rSlL C.K) te tl th) M δ μ μ3 (.d (.list (cutD ds lo hi))) := fun σ H o Q k =>
  h σ H o _ fun v H1 o1 x1 r1 => hl σ H1 o1 _ fun H2 o2 x2 => hh σ H2 o2 _ fun H3 o3 x3 => by
    obtain ⟨a, vs, q1, q2, q3⟩ := r.lst o3 (r1.mono (x2.trans x3))
    refine ⟨a, vs, q1, q2, fun p hp => ?_⟩
    obtain ⟨o', x', d'⟩ := o3.lst hp (cut_dp q3 lo hi)
    exact k _ _ o' (((x1.trans x2).trans x3).trans x') d'

/-! ### what is walked -/
structure WalkD (K : PySem.W.Frag) (J : It) (Hh : Hp) (xs : List PyData) : Prop where
  go : ∀ (M : List Addr) i H, i < xs.length → (∀ a ∈ M, H a ≠ none) → Ex Hh (hide M H) → J.go i H
  stop : ∀ (M : List Addr) H, (∀ a ∈ M, H a ≠ none) → Ex Hh (hide M H) → J.stop xs.length H
  yld : ∀ (M : List Addr) i H x H', i < xs.length → (∀ a ∈ M, H a ≠ none) → Ex Hh (hide M H) → J.yld i H x H' → Ex H H' ∧ ∃ d, xs[i]? = some d ∧ Dp K (hide M H') x d
/-- the same where the walk leans on the heap besides -/
structure WalkN (K : PySem.W.Frag) (J : It) (Hh : Hp) (N : Hp → Prop) (xs : List PyData) : Prop where
  go : ∀ (M : List Addr) (i : Nat) (H : Hp), i < xs.length → (∀ a ∈ M, H a ≠ none) → Ex Hh (hide M H) → N H → J.go i H
  stop : ∀ (M : List Addr) (H : Hp), (∀ a ∈ M, H a ≠ none) → Ex Hh (hide M H) → N H → J.stop xs.length H
  yld : ∀ (M : List Addr) (i : Nat) (H : Hp) (x : V) (H' : Hp), i < xs.length → (∀ a ∈ M, H a ≠ none) → Ex Hh (hide M H) → N H → J.yld i H x H' → Ex H H' ∧ ∃ d, xs[i]? = some d ∧ Dp K (hide M H') x d
theorem WalkD.toN {K : PySem.W.Frag} {J : It} {Hh : Hp} {xs : List PyData} (W : WalkD K J Hh xs) : WalkN K J Hh (fun _ => True) xs := ⟨fun M i H h1 h2 h3 _ => W.go M i H h1 h2 h3, fun M H h1 h2 _ => W.stop M H h1 h2, fun M i H x H' h1 h2 h3 _ y => W.yld M i H x H' h1 h2 h3 y⟩
def EvIN (C : Cfg) (wi : TI) (M : List Addr) (δ : List Ent) (μ μ' : Mem) (N : Hp → Prop) (xs : List PyData) : Prop := ∀ σ H, Ok C M δ μ σ H → ∀ R : It → Hp → Prop, (∀ J H', Ok C M δ μ' σ H' → Ex (hide M H) (hide M H') → WalkN C.K J (hide M H') N xs → R J H') → wi σ H R
def EvI (C : Cfg) (wi : TI) (M : List Addr) (δ : List Ent) (μ μ' : Mem) (xs : List PyData) : Prop := ∀ σ H, Ok C M δ μ σ H → ∀ R : It → Hp → Prop, (∀ J H', Ok C M δ μ' σ H' → Ex (hide M H) (hide M H') → WalkD C.K J (hide M H') xs → R J H') → wi σ H R
theorem EvI.toN {wi : TI} {xs : List PyData} (h : EvI C wi M δ μ μ' xs) : EvIN C wi M δ μ μ' (fun _ => True) xs := fun σ H o R k => h σ H o R fun J H' o' x W => k J H' o' x W.toN
theorem w_list {K : PySem.W.Frag} {Hh : Hp} {a : Addr} {vs : List V} {xs : List PyData} (h : SqL K Hh a vs) (hd : DpAll K Hh vs xs) : WalkD K (Itl K a) Hh xs where
  go := fun M i H hi _ x => by
    rw [← hd.length] at hi
    exact ⟨vs, vs[i], ex_l (x.trans hide_le) h, by simp [hi]⟩
  stop := fun M H _ x => ⟨vs, ex_l (x.trans hide_le) h, by rw [hd.length]; exact Nat.le_refl _⟩
  yld := fun M i H y H' hi _ x q => by
    obtain ⟨e, q⟩ := q
    subst e
    refine ⟨Ex.refl _, xs[i], by simp [hi], ?_⟩
    obtain ⟨v, h1, h2⟩ := hd.get (i := i) (d := xs[i]) (by simp [hi])
    have := q vs (ex_l (x.trans hide_le) h)
    rw [this] at h1
    cases h1
    exact dp_mono x _ _ h2
theorem w_tup {K : PySem.W.Frag} {Hh : Hp} {a : Addr} {vs : List V} {xs : List PyData} (h : SqT K Hh a vs) (hd : DpAll K Hh vs xs) : WalkD K (Itt K a) Hh xs where
  go := fun M i H hi _ x => by
    rw [← hd.length] at hi
    exact ⟨vs, vs[i], ex_t (x.trans hide_le) h, by simp [hi]⟩
  stop := fun M H _ x => ⟨vs, ex_t (x.trans hide_le) h, by rw [hd.length]; exact Nat.le_refl _⟩
  yld := fun M i H y H' hi _ x q => by
    obtain ⟨e, q⟩ := q
    subst e
    refine ⟨Ex.refl _, xs[i], by simp [hi], ?_⟩
    obtain ⟨v, h1, h2⟩ := hd.get (i := i) (d := xs[i]) (by simp [hi])
    have := q vs (ex_t (x.trans hide_le) h)
    rw [this] at h1
    cases h1
    exact dp_mono x _ _ h2
def rngD (lo : Int) (n : Nat) : List PyData := (List.range n).map fun (i : Nat) => PyData.int (lo + (i : Int))
theorem rngD_length (lo : Int) (n : Nat) : (rngD lo n).length = n := by simp [rngD]
theorem rngD_get {lo : Int} {n i : Nat} (h : i < n) : (rngD lo n)[i]? = some (.int (lo + (i : Int))) := by simp [rngD, h]
theorem w_rng {K : PySem.W.Frag} {Hh : Hp} {lo : Int} {n : Nat} : WalkD K (Itr lo n) Hh (rngD lo n) where
  go := fun M i H hi _ x => by rw [rngD_length] at hi; exact hi
  stop := fun M H _ x => by rw [rngD_length]; exact Nat.le_refl _
  yld := fun M i H y H' hi _ x q => by
    rw [rngD_length] at hi
    obtain ⟨e, q⟩ := q
    subst e
    subst q
    exact ⟨Ex.refl _, _, rngD_get hi, .int _⟩
theorem i_list {xs : List PyData} (h : EvX C te M δ μ μ' (.d (.list xs))) : EvI C (iList C.K te) M δ μ μ' xs := fun σ H o R k => h σ H o _ fun v H1 o1 x1 r => by
  obtain ⟨a, vs, q1, q2, q3⟩ := Dp.lst_of r
  exact ⟨a, q1, ⟨vs, ex_l hide_le q2⟩, k _ H1 o1 x1 (w_list q2 q3)⟩
theorem i_tup {xs : List PyData} (h : EvX C te M δ μ μ' (.d (.tuple xs))) : EvI C (iTup C.K te) M δ μ μ' xs := fun σ H o R k => h σ H o _ fun v H1 o1 x1 r => by
  obtain ⟨a, vs, q1, q2, q3⟩ := Dp.tup_of r
  exact ⟨a, q1, ⟨vs, ex_t hide_le q2⟩, k _ H1 o1 x1 (w_tup q2 q3)⟩
theorem i_rng1 {tr : TA} {n : Int} (h : EvA C tr M δ μ μ' [.d (.int n)]) (h0 : -(2 ^ 62) ≤ n) (h1 : n < 2 ^ 62) : EvI C (iRng1 tr) M δ μ μ' (rngD 0 n.toNat) := fun σ H o R k => h σ H o _ fun vs H1 o1 x1 r => by
  obtain ⟨v, rfl, q⟩ := p1 r
  exact ⟨n, by rw [Dp.int_of q], h0, h1, k _ H1 o1 x1 w_rng⟩
theorem i_rng2 {tr : TA} {m n : Int} (h : EvA C tr M δ μ μ' [.d (.int m), .d (.int n)]) (h0 : -(2 ^ 62) ≤ m ∧ m < 2 ^ 62 ∧ -(2 ^ 62) ≤ n ∧ n < 2 ^ 62) : EvI C (iRng2 tr) M δ μ μ' (rngD m (n - m).toNat) := fun σ H o R k => h σ H o _ fun vs H1 o1 x1 r => by
  obtain ⟨v, w, rfl, q, q'⟩ := p2 r
  exact ⟨m, n, by rw [Dp.int_of q, Dp.int_of q'], h0, k _ H1 o1 x1 w_rng⟩
/-- pairs -/
def pairD (xs ys : List PyData) : List PyData := (xs.zip ys).map fun p => .tuple [p.1, p.2]
theorem pairD_get {xs ys : List PyData} {i : Nat} {x y : PyData} (h1 : xs[i]? = some x) (h2 : ys[i]? = some y) : (pairD xs ys)[i]? = some (.tuple [x, y]) := by
  unfold pairD
  rw [List.getElem?_map, List.getElem?_zip_eq_some (z := (x, y)) |>.mpr ⟨h1, h2⟩]
  rfl
theorem pairD_length (xs ys : List PyData) : (pairD xs ys).length = min xs.length ys.length := by
  unfold pairD
  rw [List.length_map, List.length_zip]
theorem new_pair {K : PySem.W.Frag} {M : List Addr} {H : Hp} {T : Addr} {v w : V} {x y : PyData} (al : ∀ a ∈ M, H a ≠ none) (hT : H T = none) (h1 : Dp K (hide M H) v x) (h2 : Dp K (hide M H) w y) :
    Ex H (upd H T (.tup [v, w])) ∧ Dp K (hide M (upd H T (.tup [v, w]))) (.ref T) (.tuple [x, y]) := by
  have e : Ex H (upd H T (.tup [v, w])) := Ex.new hT
  refine ⟨e, .tup (st_of ?_) (.cons (dp_mono (hide_ex e) _ _ h1) (.cons (dp_mono (hide_ex e) _ _ h2) .nil))⟩
  rw [hide_out (fun z => al T z hT), upd_same]
theorem w_zipT {K : PySem.W.Frag} {Hh : Hp} {a b : Addr} {vs ws : List V} {xs ys : List PyData} (h : SqT K Hh a vs) (hd : DpAll K Hh vs xs) (h' : SqT K Hh b ws) (hd' : DpAll K Hh ws ys) : WalkD K (RZ.ItzT K a b) Hh (pairD xs ys) where
  go := fun M i H hi _ x => by
    rw [pairD_length, ← hd.length, ← hd'.length] at hi
    have i1 : i < vs.length := by omega
    have i2 : i < ws.length := by omega
    exact ⟨vs, ws, vs[i], ws[i], ex_t (x.trans hide_le) h, ex_t (x.trans hide_le) h', by simp [i1], by simp [i2]⟩
  stop := fun M H _ x => ⟨vs, ws, ex_t (x.trans hide_le) h, ex_t (x.trans hide_le) h', by rw [pairD_length, hd.length, hd'.length]; omega⟩
  yld := fun M i H y H' hi al x q => by
    rw [pairD_length] at hi
    obtain ⟨T, v, w, rfl, hT, rfl, qv, qw⟩ := q
    have i1 : i < xs.length := by omega
    have i2 : i < ys.length := by omega
    obtain ⟨v', g1, g2⟩ := hd.get (i := i) (d := xs[i]) (by simp [i1])
    obtain ⟨w', g3, g4⟩ := hd'.get (i := i) (d := ys[i]) (by simp [i2])
    have e1 := qv vs (ex_t (x.trans hide_le) h)
    have e2 := qw ws (ex_t (x.trans hide_le) h')
    rw [g1] at e1; cases e1
    rw [g3] at e2; cases e2
    obtain ⟨r1, r2⟩ := new_pair al hT (dp_mono x _ _ g2) (dp_mono x _ _ g4)
    exact ⟨r1, _, pairD_get (by simp [i1]) (by simp [i2]), r2⟩
theorem w_zipL {K : PySem.W.Frag} {Hh : Hp} {a b : Addr} {vs ws : List V} {xs ys : List PyData} (h : SqL K Hh a vs) (hd : DpAll K Hh vs xs) (h' : SqL K Hh b ws) (hd' : DpAll K Hh ws ys) : WalkD K (Itz K a b) Hh (pairD xs ys) where
  go := fun M i H hi _ x => by
    rw [pairD_length, ← hd.length, ← hd'.length] at hi
    have i1 : i < vs.length := by omega
    have i2 : i < ws.length := by omega
    exact ⟨vs, ws, vs[i], ws[i], ex_l (x.trans hide_le) h, ex_l (x.trans hide_le) h', by simp [i1], by simp [i2]⟩
  stop := fun M H _ x => ⟨vs, ws, ex_l (x.trans hide_le) h, ex_l (x.trans hide_le) h', by rw [pairD_length, hd.length, hd'.length]; omega⟩
  yld := fun M i H y H' hi al x q => by
    rw [pairD_length] at hi
    obtain ⟨T, v, w, rfl, hT, rfl, qv, qw⟩ := q
    have i1 : i < xs.length := by omega
    have i2 : i < ys.length := by omega
    obtain ⟨v', g1, g2⟩ := hd.get (i := i) (d := xs[i]) (by simp [i1])
    obtain ⟨w', g3, g4⟩ := hd'.get (i := i) (d := ys[i]) (by simp [i2])
    have e1 := qv vs (ex_l (x.trans hide_le) h)
    have e2 := qw ws (ex_l (x.trans hide_le) h')
    rw [g1] at e1; cases e1
    rw [g3] at e2; cases e2
    obtain ⟨r1, r2⟩ := new_pair al hT (dp_mono x _ _ g2) (dp_mono x _ _ g4)
    exact ⟨r1, _, pairD_get (by simp [i1]) (by simp [i2]), r2⟩
theorem i_zipT {tr : TA} {xs ys : List PyData} (h : EvA C tr M δ μ μ' [.d (.tuple xs), .d (.tuple ys)]) : EvI C (RZ.iZipA C.K tr) M δ μ μ' (pairD xs ys) := fun σ H o R k => h σ H o _ fun vs H1 o1 x1 r => by
  obtain ⟨v, w, rfl, q, q'⟩ := p2 r
  obtain ⟨a, vs, g1, g2, g3⟩ := Dp.tup_of q
  obtain ⟨b, ws, g4, g5, g6⟩ := Dp.tup_of q'
  exact ⟨a, b, vs, ws, by rw [g1, g4], .inr ⟨ex_t hide_le g2, ex_t hide_le g5, k _ H1 o1 x1 (w_zipT g2 g3 g5 g6)⟩⟩
theorem i_zipL {tr : TA} {xs ys : List PyData} (h : EvA C tr M δ μ μ' [.d (.list xs), .d (.list ys)]) : EvI C (RZ.iZipA C.K tr) M δ μ μ' (pairD xs ys) := fun σ H o R k => h σ H o _ fun vs H1 o1 x1 r => by
  obtain ⟨v, w, rfl, q, q'⟩ := p2 r
  obtain ⟨a, vs, g1, g2, g3⟩ := Dp.lst_of q
  obtain ⟨b, ws, g4, g5, g6⟩ := Dp.lst_of q'
  exact ⟨a, b, vs, ws, by rw [g1, g4], .inl ⟨ex_l hide_le g2, ex_l hide_le g5, k _ H1 o1 x1 (w_zipL g2 g3 g5 g6)⟩⟩
/-- enumerated -/
def enumD (xs : List PyData) : List PyData := xs.zipIdx.map fun p => .tuple [.int (p.2 : Int), p.1]
theorem enumD_length (xs : List PyData) : (enumD xs).length = xs.length := by simp [enumD]
theorem enumD_get {xs : List PyData} {i : Nat} {x : PyData} (h : xs[i]? = some x) : (enumD xs)[i]? = some (.tuple [.int (i : Int), x]) := by
  unfold enumD
  rw [List.getElem?_map, List.getElem?_zipIdx, h]
  simp
theorem w_enumL {K : PySem.W.Frag} {Hh : Hp} {a : Addr} {vs : List V} {xs : List PyData} (h : SqL K Hh a vs) (hd : DpAll K Hh vs xs) : WalkD K (Ite K a) Hh (enumD xs) where
  go := fun M i H hi _ x => by
    rw [enumD_length, ← hd.length] at hi
    exact ⟨vs, vs[i], ex_l (x.trans hide_le) h, by simp [hi]⟩
  stop := fun M H _ x => ⟨vs, ex_l (x.trans hide_le) h, by rw [enumD_length, hd.length]; exact Nat.le_refl _⟩
  yld := fun M i H y H' hi al x q => by
    rw [enumD_length] at hi
    obtain ⟨T, v, rfl, hT, rfl, qv⟩ := q
    obtain ⟨v', g1, g2⟩ := hd.get (i := i) (d := xs[i]) (by simp [hi])
    have e1 := qv vs (ex_l (x.trans hide_le) h)
    rw [g1] at e1; cases e1
    obtain ⟨r1, r2⟩ := new_pair al hT (Dp.int (i : Nat)) (dp_mono x _ _ g2)
    exact ⟨r1, _, enumD_get (by simp [hi]), r2⟩
theorem i_enumL {tr : TA} {xs : List PyData} (h : EvA C tr M δ μ μ' [.d (.list xs)]) : EvI C (iEnum C.K tr) M δ μ μ' (enumD xs) := fun σ H o R k => h σ H o _ fun vs H1 o1 x1 r => by
  obtain ⟨v, rfl, q⟩ := p1 r
  obtain ⟨a, vs, g1, g2, g3⟩ := Dp.lst_of q
  exact ⟨a, vs, by rw [g1], ex_l hide_le g2, k _ H1 o1 x1 (w_enumL g2 g3)⟩
end
end FD
namespace FD
open PySem L2 Evl
section
variable {C : Cfg} {M M' : List Addr} {δ δ' δ1 δ2 : List Ent} {μ μ' μ1 μ2 μ3 : Mem} {σ σ' σ1 σ2 : L2.St} {H H' : Hp} {e e1 e2 e3 : Ent} {ta tb te tc : TE} {t u : TT} {b c : Bool}
/-! ### what else is kept: all hidden lists that are not spoken of -/
theorem Ok.toG (o : Ok C M δ μ σ H) : Ok { C with G := hide (μ.map (·.1)) H } M δ μ σ H where
  len := o.len
  slot := o.slot
  mem := fun p hp => let ⟨a, _, c⟩ := o.mem p hp; ⟨a, hide_in (List.mem_map.mpr ⟨p, hp, rfl⟩), c⟩
  nd := o.nd
  alloc := o.alloc
  sub := o.sub
  gr := hide_le
  base := o.base
theorem Ok.ofG (o : Ok C M δ μ σ H) (p : Ok { C with G := hide (μ.map (·.1)) H } M δ' μ' σ' H') : Ok C M δ' μ' σ' H' where
  len := p.len
  slot := p.slot
  mem := fun q hq => by
    obtain ⟨a, b, c⟩ := p.mem q hq
    refine ⟨a, ?_, c⟩
    cases z : C.G q.1 with
    | none => rfl
    | some u =>
      have hH := o.gr _ _ z
      have b' : hide (μ.map (·.1)) H q.1 = none := b
      by_cases hm : q.1 ∈ μ.map (·.1)
      · obtain ⟨r, hr, er⟩ := List.mem_map.mp hm
        have := (o.mem r hr).2.1
        rw [show r.1 = q.1 from er, z] at this; cases this
      · rw [hide_out hm, hH] at b'; cases b'
  nd := p.nd
  alloc := p.alloc
  sub := p.sub
  gr := fun a u z => by
    have hH := o.gr _ _ z
    refine p.gr a u ?_
    show hide (μ.map (·.1)) H a = some u
    rw [hide_out]
    · exact hH
    · intro hm
      obtain ⟨r, hr, er⟩ := List.mem_map.mp hm
      have := (o.mem r hr).2.1
      rw [show r.1 = a from er, z] at this; cases this
  base := p.base
theorem Ok.writeH (o : Ok C M δ μ σ H) {a : Addr} {ho : HO} (ha : a ∈ M) (hn : ∀ p ∈ μ, p.1 ≠ a) (hg : C.G a = none) : Ok C M δ μ σ (upd H a ho) where
  len := o.len
  slot := fun i x h1 h2 => by rw [hide_upd ha]; exact o.slot i x h1 h2
  mem := fun p hp => by
    obtain ⟨b1, b2, b3⟩ := o.mem p hp
    rw [hide_upd ha]
    refine ⟨b1, b2, b3.mono (Ex.refl _) fun u e => ?_⟩
    rw [upd_ne (hn p hp)]; exact e
  nd := o.nd
  alloc := fun b hb => by
    by_cases q : b = a
    · subst q; rw [upd_same]; exact fun z => nomatch z
    · rw [upd_ne q]; exact o.alloc b hb
  sub := o.sub
  gr := Ex.mut o.gr hg
  base := by rw [hide_upd ha]; exact o.base

/-! ### targets -/
def TgX (K : PySem.W.Frag) (g : TG) (ts : List Nat) (d : PyData) (δ δ' : List Ent) : Prop := ∀ (C : Cfg) (M : List Addr) (μ : Mem) (σ : L2.St) (H : Hp) (v : V), C.K = K → Ok C M δ μ σ H → Dp K (hide M H) v d → ∀ Q : L2.St → Hp → Prop,
  (∀ σ', Ok C M δ' μ σ' H → σ'.length = σ.length → (∀ k, k ∉ ts → σ'[k]? = σ[k]?) → Q σ' H) → g v σ H Q
theorem tg_name {K : PySem.W.Frag} {i : Nat} {d : PyData} : TgX K (gName i) [i] d δ (δ.set i (.d d)) := fun C M μ σ H v hK o h Q k => by
  subst hK
  refine k _ (o.set i (e := .d d) h) (List.length_set ..) fun j hj => ?_
  rw [List.getElem?_set_ne (fun z => hj (by simp [z]))]
theorem tg_tup2 {K : PySem.W.Frag} {i j : Nat} {d1 d2 : PyData} : TgX K (gTup K 2 (gCons (gName i) (gCons (gName j) gNil))) [i, j] (.tuple [d1, d2]) δ ((δ.set i (.d d1)).set j (.d d2)) := fun C M μ σ H v hK o h Q k => by
  subst hK
  obtain ⟨a, vs, q1, q2, q3⟩ := Dp.tup_of h
  cases q3 with
  | cons h1 q3 =>
    cases q3 with
    | cons h2 q3 =>
      cases q3
      refine ⟨a, _, q1, ex_t hide_le q2, rfl, _, _, rfl, _, _, rfl, rfl, ?_⟩
      refine k _ ((o.set i (e := .d d1) h1).set j (e := .d d2) h2) (by rw [List.length_set, List.length_set]) fun m hm => ?_
      rw [List.getElem?_set_ne (fun z => hm (by simp [z])), List.getElem?_set_ne (fun z => hm (by simp [z]))]

/-! ### a comprehension -/
def wipeE (δ : List Ent) : List Nat → List Ent
  | [] => δ
  | v :: vs => (wipeE δ vs).set v .u
theorem wipeE_length (δ : List Ent) : ∀ vs, (wipeE δ vs).length = δ.length
  | [] => rfl
  | v :: vs => by unfold wipeE; rw [List.length_set, wipeE_length δ vs]
theorem wipe_get {σ : L2.St} {i : Nat} : ∀ {vs : List Nat}, i ∉ vs → (wipe σ vs)[i]? = σ[i]?
  | [], _ => rfl
  | v :: vs, h => by
    unfold wipe
    rw [List.getElem?_set_ne (fun z => h (by simp [z])), wipe_get (fun z => h (List.mem_cons_of_mem _ z))]
theorem wipe_at {σ : L2.St} {i : Nat} : ∀ {vs : List Nat}, i ∈ vs → i < σ.length → (wipe σ vs)[i]? = some none
  | v :: vs, h, hl => by
    unfold wipe
    by_cases q : v = i
    · subst q; rw [List.getElem?_set_self (by rw [wipe_length]; exact hl)]
    · rw [List.getElem?_set_ne q]
      exact wipe_at ((List.mem_cons.mp h).elim (fun z => absurd z.symm q) id) hl
theorem wipeE_get {i : Nat} {e : Ent} : ∀ {vs : List Nat}, (wipeE δ vs)[i]? = some e → e ≠ .u → δ[i]? = some e ∧ i ∉ vs
  | [], h, _ => ⟨h, by simp⟩
  | v :: vs, h, hu => by
    unfold wipeE at h
    by_cases q : v = i
    · subst q
      have hl := (List.getElem?_eq_some_iff.mp h).1
      rw [List.length_set] at hl
      rw [List.getElem?_set_self hl] at h
      cases h
      exact absurd rfl hu
    · rw [List.getElem?_set_ne q] at h
      obtain ⟨h1, h2⟩ := wipeE_get (vs := vs) h hu
      exact ⟨h1, fun z => (List.mem_cons.mp z).elim (fun z => q z.symm) h2⟩
theorem Ok.wiped (o : Ok C M δ μ σ H) (vs : List Nat) : Ok C M (wipeE δ vs) μ (wipe σ vs) H :=
  o.weak (by rw [wipe_length, wipeE_length]; exact o.len) fun i e h1 h2 => by
    obtain ⟨a, b⟩ := wipeE_get h1 h2
    exact ⟨a, wipe_get b⟩
theorem wipe_eq {vs ts : List Nat} (hl : σ'.length = σ.length) (h : ∀ k, k ∉ ts → σ'[k]? = (wipe σ vs)[k]?) (s : ∀ k ∈ ts, k ∈ vs) : wipe σ' vs = wipe σ vs := by
  refine List.ext_getElem? fun k => ?_
  by_cases q : k ∈ vs
  · by_cases z : k < σ.length
    · rw [wipe_at q z, wipe_at q (by rw [hl]; exact z)]
    · rw [List.getElem?_eq_none (by rw [wipe_length, hl]; omega), List.getElem?_eq_none (by rw [wipe_length]; omega)]
  · rw [wipe_get q, wipe_get q, h k (fun z => q (s k z)), wipe_get q]
def lcD (b : Nat → Bool) (f : Nat → PyData) (i : Nat) : List PyData := ((List.range i).filter b).map f
theorem lcD_yes {b : Nat → Bool} {f : Nat → PyData} {i : Nat} (h : b i = true) : lcD b f (i + 1) = lcD b f i ++ [f i] := by
  unfold lcD
  rw [List.range_succ, List.filter_append, List.map_append, List.filter_cons, if_pos h]
  rfl
theorem lcD_no {b : Nat → Bool} {f : Nat → PyData} {i : Nat} (h : b i = false) : lcD b f (i + 1) = lcD b f i := by
  unfold lcD
  rw [List.range_succ, List.filter_append, List.map_append]
  rw [List.filter_cons, if_neg (by rw [h]; decide)]
  show _ ++ [] = _
  rw [List.append_nil]
theorem lcD_len (b : Nat → Bool) (f : Nat → PyData) (i : Nat) : (lcD b f i).length ≤ i := by
  unfold lcD
  rw [List.length_map]
  have h := List.length_filter_le b (List.range i)
  rw [List.length_range] at h
  exact h
/-- what one turn asks -/
structure LcTurn (C : Cfg) (g : TG) (tt : TT) (te : TE) (vs : List Nat) (M : List Addr) (δ : List Ent) (μ μ' : Mem) (d : PyData) (b : Bool) (f : PyData) : Prop where
  go : ∃ ts δ' μ1, TgX C.K g ts d (wipeE δ vs) δ' ∧ (∀ k ∈ ts, k ∈ vs) ∧ EvT C tt M δ' μ μ1 b ∧ (b = true → EvX C te M δ' μ1 μ' (.d f)) ∧ (b = false → μ1 = μ')
theorem x_wl {ds : List PyData} (h : EvX C te M δ μ μ' (.l ds)) : EvX C te M δ μ μ' (.d (.list ds)) := fun σ H o Q k => h σ H o Q fun v H' o' x r => by
  obtain ⟨a, vs, e1, e2, e3⟩ := r
  rw [e1]
  refine k _ H' o' x (.lst (sq_of e2) e3)
theorem x_wh {ds : List PyData} (h : EvX C te M δ μ μ' (.h ds)) : EvX C te M δ μ μ' (.d (.tuple ds)) := fun σ H o Q k => h σ H o Q fun v H' o' x r => by
  obtain ⟨a, vs, e1, e2, e3⟩ := r
  rw [e1]
  refine k _ H' o' x (.tup (st_of e2) e3)
theorem x_lcNl {N : Hp → Prop} {wi : TI} {g : TG} {vs : List Nat} {xs : List PyData} (S : Nat → Mem) (b : Nat → Bool) (f : Nat → PyData) (hi : EvIN C wi M δ μ (S 0) N xs) (hN : ∀ (i : Nat) (B : Hp) (D : Addr) (σ : L2.St) (H : Hp), i ≤ xs.length → Ok { C with B := B } (D :: M) δ (S i) σ H → N H) (hz : xs.length ≤ 100000)
    (hs : ∀ (i : Nat) (d : PyData), xs[i]? = some d → ∀ (G B : Hp) (D : Addr), LcTurn { C with G := G, B := B } g t te vs (D :: M) δ (S i) (S (i + 1)) d (b i) (f i)) :
    EvX C (tLc wi g t te vs) M δ μ (S xs.length) (.l (lcD b f xs.length)) := fun σ H o Q k => by
  refine hi σ H o _ fun J H1 o1 x1 W D hD => ?_
  have oB := o1.toB
  have hDM : D ∉ M := o1.fresh hD
  have o2 : Ok { C with B := hide M H1 } (D :: M) δ (S 0) σ (upd H1 D (.lst [])) :=
    (oB.new hD (mo := .lst []) ⟨[], upd_same, .nil⟩).mems (fun p hp => List.mem_cons_of_mem _ hp) o1.nd
  have hS : ∀ {i : Nat} {H'}, Ok { C with B := hide M H1 } (D :: M) δ (S i) σ H' → (∀ p ∈ S i, p.1 ∈ M) → ∀ p ∈ S i, p.1 ≠ D := fun o' h p hp z => hDM (z ▸ h p hp)
  have gD : C.G D = none := by
    cases z : C.G D with
    | none => rfl
    | some u => have := o1.gr D u z; rw [hD] at this; cases this
  refine ⟨fun i m H' => m = xs.length - i ∧ i ≤ xs.length ∧ (∀ p ∈ S i, p.1 ∈ M) ∧ Ok { C with B := hide M H1 } (D :: M) δ (S i) σ H' ∧ ∃ acc, H' D = some (.lst acc) ∧ DpAll C.K (hide (D :: M) H') acc (lcD b f i),
    ⟨xs.length, by simp, Nat.zero_le _, fun p hp => (o1.mem p hp).1, o2, [], upd_same, .nil⟩, ?_⟩
  rintro i m H' ⟨rfl, hi', hSM, oi, acc, hacc, dacc⟩
  by_cases hlt : i < xs.length
  · refine .inr ⟨W.go (D :: M) i H' hlt oi.alloc oi.base (hN i _ _ _ _ hi' oi), fun H'' => (∀ p ∈ S (i + 1), p.1 ∈ M) ∧ Ok { C with B := hide M H1 } (D :: M) δ (S (i + 1)) σ H'' ∧ ∃ acc, H'' D = some (.lst acc) ∧ DpAll C.K (hide (D :: M) H'') acc (lcD b f (i + 1)),
      fun H'' q => ⟨xs.length - (i + 1), by omega, rfl, hlt, q⟩, fun x H2 y => ?_⟩
    obtain ⟨e2, d, hd, dx⟩ := W.yld (D :: M) i H' x H2 hlt oi.alloc oi.base (hN i _ _ _ _ hi' oi) y
    have o3 := oi.grow e2
    have nD : ∀ p ∈ S i, p.1 ≠ D := hS oi hSM
    -- all that is hidden and not spoken of stays: the list at D
    have o4 := o3.toG
    obtain ⟨ts, δ', μ1, tg, hts, ht, he, hno⟩ := (hs i d hd (hide ((S i).map (·.1)) H2) (hide M H1) D).go
    have hD2 : H2 D = some (.lst acc) := e2 D _ hacc
    have gD2 : hide ((S i).map (·.1)) H2 D = some (.lst acc) := by
      rw [hide_out (fun z => ?_)]
      · exact hD2
      · obtain ⟨r, hr, er⟩ := List.mem_map.mp z
        exact nD r hr er
    refine tg _ _ _ _ _ _ rfl (o4.wiped vs) dx _ fun σ2 o5 hl2 hσ2 => ⟨wipe_eq (by rw [hl2, wipe_length]) hσ2 hts, ?_⟩
    refine ht σ2 H2 o5 _ fun H3 o6 x6 => ?_
    have memM : ∀ {μ9 : Mem} {δ9 : List Ent} {σ9 : L2.St} {H9 : Hp}, Ok { C with G := hide ((S i).map (·.1)) H2, B := hide M H1 } (D :: M) δ9 μ9 σ9 H9 → ∀ p ∈ μ9, p.1 ∈ M := fun o9 p hp => by
      have a := (o9.mem p hp).1
      have g9 : hide ((S i).map (·.1)) H2 p.1 = none := (o9.mem p hp).2.1
      rcases List.mem_cons.mp a with z | z
      · rw [z, gD2] at g9; cases g9
      · exact z
    cases hb : b i with
    | true =>
      rw [if_pos rfl]
      refine he hb σ2 H3 o6 _ fun v H4 o7 x7 r7 => ?_
      have hD4 : H4 D = some (.lst acc) := o7.gr D _ gD2
      have o8 : Ok { C with B := hide M H1 } (D :: M) δ (S (i + 1)) σ H4 := o3.swap (o3.ofG o7) (x6.trans x7)
      have hSM' : ∀ p ∈ S (i + 1), p.1 ∈ M := memM o7
      have hlen : acc.length ≤ i := by rw [dacc.length]; exact lcD_len b f i
      refine ⟨acc, hD4, sz_lt (by omega), hSM', o8.writeH List.mem_cons_self (fun p hp z => hDM (z ▸ hSM' p hp)) gD, _, upd_same, ?_⟩
      rw [hide_upd List.mem_cons_self, lcD_yes hb]
      exact (dpAll_mono ((hide_ex e2).trans (x6.trans x7)) _ _ dacc).append (.cons r7 .nil)
    | false =>
      rw [if_neg Bool.false_ne_true]
      have hm := hno hb
      subst hm
      refine ⟨memM o6, o3.swap (o3.ofG o6) x6, acc, o6.gr D _ gD2, ?_⟩
      rw [lcD_no hb]
      exact dpAll_mono ((hide_ex e2).trans x6) _ _ dacc
  · have ei : i = xs.length := by omega
    subst ei
    refine .inl ⟨W.stop (D :: M) H' oi.alloc oi.base (hN _ _ _ _ _ hi' oi), ?_⟩
    have s1 : ∀ a ∈ M, a ∈ D :: M := fun a ha => List.mem_cons_of_mem _ ha
    have oE : Ok C M δ (S xs.length) σ H' := (oi.drop (M := M) s1 hSM o1.sub).reB o1.base
    have xE : Ex (hide M H) (hide M H') := x1.trans (oi.base.trans (hide_sub s1))
    refine k _ H' oE xE ⟨D, acc, rfl, ?_, dpAll_mono (hide_sub s1) _ _ dacc⟩
    rw [hide_out hDM]; exact hacc
theorem x_lcN {N : Hp → Prop} {wi : TI} {g : TG} {vs : List Nat} {xs : List PyData} (S : Nat → Mem) (b : Nat → Bool) (f : Nat → PyData) (hi : EvIN C wi M δ μ (S 0) N xs) (hN : ∀ (i : Nat) (B : Hp) (D : Addr) (σ : L2.St) (H : Hp), i ≤ xs.length → Ok { C with B := B } (D :: M) δ (S i) σ H → N H) (hz : xs.length ≤ 100000)
    (hs : ∀ (i : Nat) (d : PyData), xs[i]? = some d → ∀ (G B : Hp) (D : Addr), LcTurn { C with G := G, B := B } g t te vs (D :: M) δ (S i) (S (i + 1)) d (b i) (f i)) :
    EvX C (tLc wi g t te vs) M δ μ (S xs.length) (.d (.list (lcD b f xs.length))) := x_wl (x_lcNl S b f hi hN hz hs)
theorem x_lc {wi : TI} {g : TG} {vs : List Nat} {xs : List PyData} (S : Nat → Mem) (b : Nat → Bool) (f : Nat → PyData) (hi : EvI C wi M δ μ (S 0) xs) (hz : xs.length ≤ 100000)
    (hs : ∀ (i : Nat) (d : PyData), xs[i]? = some d → ∀ (G B : Hp) (D : Addr), LcTurn { C with G := G, B := B } g t te vs (D :: M) δ (S i) (S (i + 1)) d (b i) (f i)) :
    EvX C (tLc wi g t te vs) M δ μ (S xs.length) (.d (.list (lcD b f xs.length))) := x_lcN S b f hi.toN (fun _ _ _ _ _ _ _ => trivial) hz hs
theorem lcD_all (f : Nat → PyData) (i : Nat) : lcD (fun _ => true) f i = (List.range i).map f := by
  unfold lcD
  rw [List.filter_eq_self.mpr (fun _ _ => rfl)]
/-- no test; every turn leaves the lists as they are -/
theorem x_lcP {wi : TI} {g : TG} {vs : List Nat} {xs : List PyData} (f : Nat → PyData) (hi : EvI C wi M δ μ μ' xs) (hz : xs.length ≤ 100000) {ts : List Nat} (dl : Nat → List Ent)
    (htg : ∀ (i : Nat) (d : PyData), xs[i]? = some d → TgX C.K g ts d (wipeE δ vs) (dl i)) (hts : ∀ k ∈ ts, k ∈ vs)
    (he : ∀ (i : Nat) (d : PyData), xs[i]? = some d → ∀ (G B : Hp) (D : Addr), EvX { C with G := G, B := B } te (D :: M) (dl i) μ' μ' (.d (f i))) :
    EvX C (tLc wi g tYes te vs) M δ μ μ' (.d (.list ((List.range xs.length).map f))) := by
  rw [← lcD_all]
  exact x_lc (fun _ => μ') (fun _ => true) f hi hz fun i d hd G B D => ⟨ts, dl i, μ', htg i d hd, hts, t_yes, fun _ => he i d hd G B D, fun z => nomatch z⟩
end
end FD
namespace FD
open PySem L2 Evl
/-! ### statements -/
def Run (C : Cfg) (ts : TS) (D : Ends) (M : List Addr) (δ : List Ent) (μ : Mem) : Prop := ∀ σ H, Ok C M δ μ σ H → ts D σ H
def Nx (C : Cfg) (D : Ends) (M : List Addr) (δ : List Ent) (μ : Mem) : Prop := ∀ σ H, Ok C M δ μ σ H → D.nx σ H
/-- a word about the state, held -/
def NX (C : Cfg) (M : List Addr) (P : List Ent → Mem → Prop) : L2.St → Hp → Prop := fun σ H => ∃ δ μ, P δ μ ∧ Ok C M δ μ σ H
section
variable {C : Cfg} {M M' : List Addr} {δ δ' δ1 δ2 : List Ent} {μ μ' μ1 μ2 μ3 : Mem} {σ σ' σ1 σ2 : L2.St} {H H' : Hp} {e e1 e2 e3 : Ent} {ta tb te tc : TE} {t u : TT} {b c : Bool} {D : Ends} {t1 t2 ts : TS}
theorem r_seq (h : Run C t1 { D with nx := t2 D } M δ μ) : Run C (tSeq t1 t2) D M δ μ := h
theorem r_next (h : Nx C D M δ μ) : Run C tNext D M δ μ := h
theorem r_brk (h : ∀ σ H, Ok C M δ μ σ H → D.bk σ H) : Run C tBreak D M δ μ := h
theorem r_cont (h : ∀ σ H, Ok C M δ μ σ H → D.ct σ H) : Run C tCont D M δ μ := h
theorem r_asg {i : Nat} (h : EvX C te M δ μ μ' e) (k : Nx C D M (δ.set i e) μ') : Run C (tAsg te (gName i)) D M δ μ := fun σ H o =>
  h σ H o _ fun v H' o' x r => k _ H' (o'.set i r)
theorem q_asg {i : Nat} (h : EvX C te M δ μ μ' e) (k : Run C t2 D M (δ.set i e) μ') : Run C (tSeq (tAsg te (gName i)) t2) D M δ μ := r_asg (D := { D with nx := t2 D }) h k
theorem r_drop (h : EvX C te M δ μ μ' e) (k : Nx C D M δ μ') : Run C (tDrop te) D M δ μ := fun σ H o => h σ H o _ fun v H' o' x r => k _ H' o'
theorem q_drop (h : EvX C te M δ μ μ' e) (k : Run C t2 D M δ μ') : Run C (tSeq (tDrop te) t2) D M δ μ := r_drop (D := { D with nx := t2 D }) h k
theorem r_par {i j : Nat} {tr : TA} (h : EvA C tr M δ μ μ' [e1, e2]) (k : Nx C D M ((δ.set i e1).set j e2) μ') : Run C (tPar i j tr) D M δ μ := fun σ H o =>
  h σ H o _ fun vs H' o' x r => by
    obtain ⟨v, w, rfl, q, q'⟩ := p2 r
    exact ⟨v, w, rfl, k _ H' ((o'.set i q).set j q')⟩
theorem q_par {i j : Nat} {tr : TA} (h : EvA C tr M δ μ μ' [e1, e2]) (k : Run C t2 D M ((δ.set i e1).set j e2) μ') : Run C (tSeq (tPar i j tr) t2) D M δ μ := r_par (D := { D with nx := t2 D }) h k
theorem r_if (h : EvT C t M δ μ μ' b) (h1 : b = true → Run C t1 D M δ μ') (h2 : b = false → Run C t2 D M δ μ') : Run C (tIfS t t1 t2) D M δ μ := fun σ H o => h σ H o _ fun H1 o1 x1 => by
  cases b with
  | true => exact h1 rfl σ H1 o1
  | false => exact h2 rfl σ H1 o1
theorem q_if {t3 : TS} (h : EvT C t M δ μ μ' b) (h1 : b = true → Run C t1 { D with nx := t3 D } M δ μ') (h2 : b = false → Run C t2 { D with nx := t3 D } M δ μ') : Run C (tSeq (tIfS t t1 t2) t3) D M δ μ := r_if (D := { D with nx := t3 D }) h h1 h2
/-- an if without an else -/
theorem q_when {t3 : TS} (h : EvT C t M δ μ μ' b) (h1 : b = true → Run C t1 { D with nx := t3 D } M δ μ') (h2 : b = false → Run C t3 D M δ μ') : Run C (tSeq (tIfS t t1 tNext) t3) D M δ μ := r_if (D := { D with nx := t3 D }) h h1 h2
/-- what the caller wants of an end with data -/
def Fin (C : Cfg) (D : Ends) (d : PyData) : Prop := ∀ v H, Ex C.G H → Dp C.K (hide C.M0 H) v d → D.rt v H
theorem r_retD {d : PyData} (h : EvX C te M δ μ μ' (.d d)) (k : Fin C D d) : Run C (tRet te) D M δ μ := fun σ H o => h σ H o _ fun v H1 o1 x1 r =>
  k v H1 o1.gr (dp_mono (hide_sub o1.sub) _ _ r)
theorem r_ret (h : EvX C te M δ μ μ' e) (k : ∀ σ v H, Ok C M δ μ' σ H → EntOk C.K (hide M H) e v → D.rt v H) : Run C (tRet te) D M δ μ := fun σ H o => h σ H o _ fun v H1 o1 x1 r => k σ v H1 o1 r
/-- one's own list handed back -/
theorem r_retM {a : Addr} {ds : List PyData} {j : Nat} (h : EvX C te M δ μ μ' (.m a)) (hj : μ'[j]? = some (a, .lst ds)) (ha : a ∉ C.M0) (k : Fin C D (.list ds)) : Run C (tRet te) D M δ μ := fun σ H o => h σ H o _ fun v H1 o1 x1 r => by
  have r' : v = .ref a := r
  obtain ⟨_, _, vs, q1, q2⟩ := o1.mem _ (List.mem_of_getElem? hj)
  refine k v H1 o1.gr ?_
  rw [r']
  refine .lst (sq_of ?_) (dpAll_mono (hide_sub o1.sub) _ _ q2)
  rw [hide_out ha]; exact q1
/-- x = [..]: a list of one's own -/
theorem r_new {i : Nat} {tr : TA} {ds : List PyData} (h : EvA C tr M δ μ μ' (ds.map Ent.d)) (hl : ds.length ≤ 100000) (k : ∀ p, p ∉ M → Nx C D (p :: M) (δ.set i (.m p)) ((p, .lst ds) :: μ')) : Run C (tAsg (tLst tr) (gName i)) D M δ μ := fun σ H o =>
  h σ H o _ fun vs H1 o1 x1 r => ⟨by have := (dpAll_of r).length; rw [this]; exact sz_of hl, fun p hp => by
    have o2 := o1.new hp (mo := .lst ds) (ho := .lst vs) ⟨vs, upd_same, dpAll_mono (hide_new hp) _ _ (dpAll_of r)⟩
    exact k p (o1.fresh hp) _ _ (o2.set i (e := .m p) rfl)⟩
theorem q_new {i : Nat} {tr : TA} {ds : List PyData} (h : EvA C tr M δ μ μ' (ds.map Ent.d)) (hl : ds.length ≤ 100000) (k : ∀ p, p ∉ M → Run C t2 D (p :: M) (δ.set i (.m p)) ((p, .lst ds) :: μ')) : Run C (tSeq (tAsg (tLst tr) (gName i)) t2) D M δ μ := r_new (D := { D with nx := t2 D }) h hl k
/-- x.append(e) -/
theorem r_app {j : Nat} {a : Addr} {ds : List PyData} {d : PyData} (hx : EvX C ta M δ μ μ1 (.m a)) (h : EvX C te M δ μ1 μ2 (.d d)) (h1 : μ1[j]? = some (a, .lst ds)) (hj : μ2[j]? = some (a, .lst ds)) (hz : ds.length < 100000) (k : Nx C D M δ (μ2.set j (a, .lst (ds ++ [d])))) :
    Run C (tDrop (tBM C.K "list" rAppend ta (tCons te tNil))) D M δ μ := fun σ H o => hx σ H o _ fun v H1 o1 x1 r1 => by
  have e1 : v = .ref a := r1
  subst e1
  obtain ⟨_, _, vs1, q1, q2⟩ := o1.mem _ (List.mem_of_getElem? h1)
  refine ⟨.inl ⟨rfl, _, SqL.of q1⟩, ?_⟩
  refine h σ H1 o1 _ fun w H2 o2 x2 r2 => ?_
  obtain ⟨_, _, vs, q3, q4⟩ := o2.mem _ (List.mem_of_getElem? hj)
  refine ⟨a, vs, w, rfl, rfl, q3, sz_lt (by rw [q4.length]; exact hz), ?_⟩
  refine k _ _ (o2.write hj ⟨_, upd_same, q4.append (.cons r2 .nil)⟩)
theorem q_app {j : Nat} {a : Addr} {ds : List PyData} {d : PyData} (hx : EvX C ta M δ μ μ1 (.m a)) (h : EvX C te M δ μ1 μ2 (.d d)) (h1 : μ1[j]? = some (a, .lst ds)) (hj : μ2[j]? = some (a, .lst ds)) (hz : ds.length < 100000) (k : Run C t2 D M δ (μ2.set j (a, .lst (ds ++ [d])))) :
    Run C (tSeq (tDrop (tBM C.K "list" rAppend ta (tCons te tNil))) t2) D M δ μ := r_app (D := { D with nx := t2 D }) hx h h1 hj hz k
/-- x[k] = e -/
theorem r_setL {j n : Nat} {a : Addr} {ds : List PyData} {d : PyData} {i : Int} (h : EvX C te M δ μ μ1 (.d d)) (hx : EvX C ta M δ μ1 μ2 (.m a)) (hi : EvX C tb M δ μ2 μ3 (.d (.int i))) (hj : μ3[j]? = some (a, .lst ds)) (hn : ixN ds.length i = some n) (k : Nx C D M δ (μ3.set j (a, .lst (ds.set n d)))) :
    Run C (tAsg te (gSub ta tb rSetL)) D M δ μ := fun σ H o => h σ H o _ fun v H1 o1 x1 r1 => hx σ H1 o1 _ fun w H2 o2 x2 r2 => hi σ H2 o2 _ fun z H3 o3 x3 r3 => by
  have e1 : w = .ref a := r2
  subst e1
  obtain ⟨_, _, vs, q3, q4⟩ := o3.mem _ (List.mem_of_getElem? hj)
  refine ⟨a, vs, i, n, rfl, Dp.int_of r3, q3, by rw [q4.length]; exact hn, ?_⟩
  exact k _ _ (o3.write hj ⟨_, upd_same, q4.set n (EntOk.mono (e := .d d) (x2.trans x3) r1)⟩)
theorem q_setL {j n : Nat} {a : Addr} {ds : List PyData} {d : PyData} {i : Int} (h : EvX C te M δ μ μ1 (.d d)) (hx : EvX C ta M δ μ1 μ2 (.m a)) (hi : EvX C tb M δ μ2 μ3 (.d (.int i))) (hj : μ3[j]? = some (a, .lst ds)) (hn : ixN ds.length i = some n) (k : Run C t2 D M δ (μ3.set j (a, .lst (ds.set n d)))) :
    Run C (tSeq (tAsg te (gSub ta tb rSetL)) t2) D M δ μ := r_setL (D := { D with nx := t2 D }) h hx hi hj hn k
/-- a for; B: what stood at its start -/
theorem r_forN {N : Hp → Prop} {wi : TI} {g : TG} {xs : List PyData} (hi : EvIN C wi M δ μ μ1 N xs) (P : Nat → List Ent → Mem → Prop) (hN : ∀ (i : Nat) (B : Hp) (δ1 : List Ent) (μ1 : Mem) (σ : L2.St) (H : Hp), i ≤ xs.length → P i δ1 μ1 → Ok { C with B := B } M δ1 μ1 σ H → N H) (h0 : P 0 δ μ1)
    (hs : ∀ B, Ex C.B B → ∀ (i : Nat) (d : PyData) (δ1 : List Ent) (μ1 : Mem), xs[i]? = some d → P i δ1 μ1 → ∃ tl δ2, TgX C.K g tl d δ1 δ2 ∧
      Run { C with B := B } ts { D with nx := NX { C with B := B } M (P (i + 1)), ct := NX { C with B := B } M (P (i + 1)), bk := D.nx } M δ2 μ1)
    (hd : ∀ δ1 μ1, P xs.length δ1 μ1 → Nx C D M δ1 μ1) : Run C (tFor wi g ts) D M δ μ := fun σ H o => by
  refine hi σ H o _ fun J H1 o1 x1 W => ?_
  refine ⟨fun i m σ' H' => m = xs.length - i ∧ i ≤ xs.length ∧ NX { C with B := hide M H1 } M (P i) σ' H', ⟨xs.length, by simp, Nat.zero_le _, δ, μ1, h0, o1.toB⟩, ?_⟩
  rintro i m σ' H' ⟨rfl, hi', δ1, μ1, hP, oi⟩
  by_cases hlt : i < xs.length
  · refine .inr ⟨W.go M i H' hlt oi.alloc oi.base (hN i _ _ _ _ _ hi' hP oi), NX { C with B := hide M H1 } M (P (i + 1)), fun σ2 H2 q => ⟨xs.length - (i + 1), by omega, rfl, hlt, q⟩, fun x H2 y => ?_⟩
    obtain ⟨e2, d, hd, dx⟩ := W.yld M i H' x H2 hlt oi.alloc oi.base (hN i _ _ _ _ _ hi' hP oi) y
    obtain ⟨tl, δ2, tg, run⟩ := hs (hide M H1) o1.base i d δ1 μ1 hd hP
    exact tg { C with B := hide M H1 } _ _ _ _ _ rfl (oi.grow e2) dx _ fun σ3 o3 _ _ => run σ3 H2 o3
  · have ei : i = xs.length := by omega
    subst ei
    exact .inl ⟨W.stop M H' oi.alloc oi.base (hN _ _ _ _ _ _ hi' hP oi), hd δ1 μ1 hP σ' H' (oi.reB o1.base)⟩
theorem r_for {wi : TI} {g : TG} {xs : List PyData} (hi : EvI C wi M δ μ μ1 xs) (P : Nat → List Ent → Mem → Prop) (h0 : P 0 δ μ1)
    (hs : ∀ B, Ex C.B B → ∀ (i : Nat) (d : PyData) (δ1 : List Ent) (μ1 : Mem), xs[i]? = some d → P i δ1 μ1 → ∃ tl δ2, TgX C.K g tl d δ1 δ2 ∧
      Run { C with B := B } ts { D with nx := NX { C with B := B } M (P (i + 1)), ct := NX { C with B := B } M (P (i + 1)), bk := D.nx } M δ2 μ1)
    (hd : ∀ δ1 μ1, P xs.length δ1 μ1 → Nx C D M δ1 μ1) : Run C (tFor wi g ts) D M δ μ := r_forN hi.toN P (fun _ _ _ _ _ _ _ _ _ => trivial) h0 hs hd
theorem q_for {wi : TI} {g : TG} {xs : List PyData} (hi : EvI C wi M δ μ μ1 xs) (P : Nat → List Ent → Mem → Prop) (h0 : P 0 δ μ1)
    (hs : ∀ B, Ex C.B B → ∀ (i : Nat) (d : PyData) (δ1 : List Ent) (μ1 : Mem), xs[i]? = some d → P i δ1 μ1 → ∃ tl δ2, TgX C.K g tl d δ1 δ2 ∧
      Run { C with B := B } ts { D with nx := NX { C with B := B } M (P (i + 1)), ct := NX { C with B := B } M (P (i + 1)), bk := t2 D } M δ2 μ1)
    (hd : ∀ δ1 μ1, P xs.length δ1 μ1 → Run C t2 D M δ1 μ1) : Run C (tSeq (tFor wi g ts) t2) D M δ μ := r_for (D := { D with nx := t2 D }) hi P h0 hs hd
theorem nx_of {P : List Ent → Mem → Prop} (h : P δ μ) : Nx C { D with nx := NX C M P } M δ μ := fun σ H o => ⟨δ, μ, h, o⟩
/-- a while; m falls -/
theorem r_while (P : Nat → List Ent → Mem → Prop) (m0 : Nat) (h0 : P m0 δ μ)
    (hs : ∀ (m : Nat) (δ1 : List Ent) (μ1 : Mem), P m δ1 μ1 → ∃ b μ2, EvT C t M δ1 μ1 μ2 b ∧
      (b = true → Run C ts { D with nx := NX C M (fun δ μ => ∃ m', m' < m ∧ P m' δ μ), ct := NX C M (fun δ μ => ∃ m', m' < m ∧ P m' δ μ), bk := D.nx } M δ1 μ2) ∧ (b = false → Nx C D M δ1 μ2)) : Run C (tWhile t ts) D M δ μ := fun σ H o => by
  refine ⟨fun m σ' H' => NX C M (P m) σ' H', ⟨m0, δ, μ, h0, o⟩, ?_⟩
  rintro m σ' H' ⟨δ1, μ1, hP, o1⟩
  obtain ⟨b, μ2, ht, h1, h2⟩ := hs m δ1 μ1 hP
  refine ht σ' H' o1 _ fun H2 o2 x2 => ?_
  cases b with
  | true =>
    rw [if_pos rfl]
    exact ⟨_, fun σ3 H3 ⟨δ3, μ3, ⟨m', hm, q⟩, o3⟩ => ⟨m', hm, δ3, μ3, q, o3⟩, h1 rfl σ' H2 o2⟩
  | false =>
    rw [if_neg Bool.false_ne_true]
    exact h2 rfl σ' H2 o2
theorem q_while (P : Nat → List Ent → Mem → Prop) (m0 : Nat) (h0 : P m0 δ μ)
    (hs : ∀ (m : Nat) (δ1 : List Ent) (μ1 : Mem), P m δ1 μ1 → ∃ b μ2, EvT C t M δ1 μ1 μ2 b ∧
      (b = true → Run C ts { D with nx := NX C M (fun δ μ => ∃ m', m' < m ∧ P m' δ μ), ct := NX C M (fun δ μ => ∃ m', m' < m ∧ P m' δ μ), bk := t2 D } M δ1 μ2) ∧ (b = false → Run C t2 D M δ1 μ2)) : Run C (tSeq (tWhile t ts) t2) D M δ μ := r_while (D := { D with nx := t2 D }) P m0 h0 hs
end

/-! ### promises -/
/-- data in, data out -/
def spD (K : PySem.W.Frag) (n : Nat) (Pre : List PyData → Prop) (F : List PyData → PyData) : Sp := fun vs H Q _ => vs.length = n ∧ ∃ M ds, (∀ a ∈ M, H a ≠ none) ∧ DpAll K (hide M H) vs ds ∧ Pre ds ∧ ∀ v H', Ex H H' → Dp K (hide M H') v (F ds) → Q v H'
/-- a list in the first place, changed -/
def spM (K : PySem.W.Frag) (n : Nat) (Pre : List PyData → List PyData → Prop) (F : List PyData → List PyData → PyData) (F2 : List PyData → List PyData → List PyData) : Sp := fun vs H Q _ =>
  vs.length = n ∧ ∃ M b bs ws ds, vs = .ref b :: ws ∧ b ∈ M ∧ (∀ a ∈ M, H a ≠ none) ∧ MOok K (hide M H) H b (.lst bs) ∧ DpAll K (hide M H) ws ds ∧ Pre bs ds ∧
    ∀ v H', Ex (hide [b] H) H' → MOok K (hide M H') H' b (.lst (F2 bs ds)) → Dp K (hide M H') v (F bs ds) → Q v H'
section
variable {C : Cfg} {M : List Addr} {δ : List Ent} {μ μ' μ1 μ2 : Mem} {tr : TA}
theorem x_call {n : Nat} {Pre : List PyData → Prop} {F : List PyData → PyData} {ds : List PyData} {E : XK} (h : EvA C tr M δ μ μ' (ds.map Ent.d)) (hn : ds.length = n) (hp : Pre ds) : EvX C (tCall (spD C.K n Pre F) [] E tr) M δ μ μ' (.d (F ds)) := fun σ H o Q k =>
  h σ H o _ fun vs H1 o1 x1 r1 => by
    rw [List.append_nil]
    refine ⟨by rw [(dpAll_of r1).length]; exact hn, M, ds, o1.alloc, dpAll_of r1, hp, fun v H2 e2 d2 => ?_⟩
    exact k v H2 (o1.grow e2) (x1.trans (hide_ex e2)) d2
theorem after_mut {σ : L2.St} {H1 H2 : Hp} {j : Nat} {b : Addr} {mo mo' : MO} (o1 : Ok C M δ μ σ H1) (hj : μ[j]? = some (b, mo)) (hex : Ex (hide [b] H1) H2) (hm : MOok C.K (hide M H2) H2 b mo') : Ok C M δ (μ.set j (b, mo')) σ H2 ∧ Ex (hide M H1) (hide M H2) := by
  have hb := o1.mem _ (List.mem_of_getElem? hj)
  have kp : ∀ a u, a ≠ b → H1 a = some u → H2 a = some u := fun a u ne e => hex a u (by rw [hide_out (by simp [ne])]; exact e)
  have x : Ex (hide M H1) (hide M H2) := fun a u e => by
    obtain ⟨q, e⟩ := hide_some e
    rw [hide_out q]
    exact kp a u (fun z => q (z ▸ hb.1)) e
  refine ⟨⟨o1.len, fun i y h1 h2 => let ⟨v, a, c⟩ := o1.slot i y h1 h2; ⟨v, a, c.mono x⟩, fun p hp => ?_, by rw [map_set_fst hj]; exact o1.nd, fun a ha => ?_, o1.sub, fun a u z => ?_, o1.base.trans x⟩, x⟩
  · obtain ⟨k, hk⟩ := List.getElem?_of_mem hp
    by_cases q : j = k
    · subst q
      rw [List.getElem?_set_self (List.getElem?_eq_some_iff.mp hj).1] at hk
      cases hk
      exact ⟨hb.1, hb.2.1, hm⟩
    · rw [List.getElem?_set_ne q] at hk
      obtain ⟨b1, b2, b3⟩ := o1.mem p (List.mem_of_getElem? hk)
      refine ⟨b1, b2, b3.mono x fun u e => kp _ u (fun z => ?_) e⟩
      have : (p.1, p.2) = p := rfl
      rw [← this, z] at hk
      exact q (nodup_fst o1.nd hj hk)
  · by_cases q : a = b
    · subst q; exact hm.there
    · cases z : H1 a with
      | none => exact absurd z (o1.alloc a ha)
      | some u => rw [kp a u q z]; exact fun z => nomatch z
  · refine kp a u (fun q => ?_) (o1.gr a u z)
    subst q
    have := hb.2.1
    rw [z] at this; cases this
theorem x_callM {n : Nat} {Pre : List PyData → List PyData → Prop} {F : List PyData → List PyData → PyData} {F2 : List PyData → List PyData → List PyData} {ds bs : List PyData} {E : XK} {b : Addr} {j : Nat}
    (h : EvA C tr M δ μ μ' (.m b :: ds.map Ent.d)) (hn : ds.length + 1 = n) (hj : μ'[j]? = some (b, .lst bs)) (hp : Pre bs ds) : EvX C (tCall (spM C.K n Pre F F2) [] E tr) M δ μ (μ'.set j (b, .lst (F2 bs ds))) (.d (F bs ds)) := fun σ H o Q k =>
  h σ H o _ fun vs H1 o1 x1 r1 => by
    rw [List.append_nil]
    cases r1 with
    | cons r0 rr =>
      have e0 : _ = V.ref b := r0
      subst e0
      have hb := o1.mem _ (List.mem_of_getElem? hj)
      refine ⟨by rw [List.length_cons, (dpAll_of rr).length]; exact hn, M, b, bs, _, ds, rfl, hb.1, o1.alloc, hb.2.2, dpAll_of rr, hp, fun v H2 e2 m2 d2 => ?_⟩
      obtain ⟨o2, x2⟩ := after_mut o1 hj e2 m2
      exact k v H2 o2 (x1.trans x2) d2
end

/-! ### a def's entry -/
def startE (n m : Nat) (es : List Ent) : List Ent := es ++ List.replicate (n - m) .u
theorem start_slot {K : PySem.W.Frag} {Hh : Hp} {N : List Str} {vs : List V} {es : List Ent} (h : Paired (EntOk K Hh) es vs) (i : Nat) (e : Ent) (h1 : (startE N.length es.length es)[i]? = some e) (h2 : e ≠ .u) : ∃ v, (L2.start N vs)[i]? = some (some v) ∧ EntOk K Hh e v := by
  unfold startE at h1
  unfold L2.start
  by_cases hi : i < es.length
  · rw [List.getElem?_append_left hi] at h1
    have hl : es.length = vs.length := by
      clear h1 hi
      induction h with
      | nil => rfl
      | cons _ _ ih => rw [List.length_cons, List.length_cons, ih]
    rw [List.getElem?_append_left (by rw [List.length_map, ← hl]; exact hi), List.getElem?_map]
    clear hi hl
    induction h generalizing i with
    | nil => simp at h1
    | cons r _ ih =>
      cases i with
      | zero => simp at h1; subst h1; exact ⟨_, rfl, r⟩
      | succ i => simpa using ih i (by simpa using h1)
  · rw [List.getElem?_append_right (Nat.le_of_not_lt hi)] at h1
    have := List.mem_replicate.mp (List.mem_of_getElem? h1)
    exact absurd this.2 h2
theorem pairedD {K : PySem.W.Frag} {H : Hp} : ∀ {ds : List PyData} {vs : List V}, DpAll K H vs ds → Paired (EntOk K H) (ds.map Ent.d) vs
  | _, _, .nil => .nil
  | _, _, .cons r t => .cons r (pairedD t)
theorem start_len {N : List Str} {vs : List V} {es : List Ent} (h : es.length = vs.length) (hN : vs.length ≤ N.length) : (L2.start N vs).length = (startE N.length es.length es).length := by
  unfold L2.start startE
  rw [List.length_append, List.length_append, List.length_map, List.length_replicate, List.length_replicate, h]
theorem paired_len {α β : Type} {F : α → β → Prop} {as : List α} {bs : List β} (h : Paired F as bs) : as.length = bs.length := by
  induction h with
  | nil => rfl
  | cons _ _ ih => rw [List.length_cons, List.length_cons, ih]
/-- the entry of a def that is handed data -/
theorem ok_startD {K : PySem.W.Frag} {H : Hp} {N : List Str} {M : List Addr} {vs : List V} {ds : List PyData} (al : ∀ a ∈ M, H a ≠ none) (h : DpAll K (hide M H) vs ds) (hN : vs.length ≤ N.length) :
    Ok ⟨K, M, H, hide M H⟩ M (startE N.length ds.length (ds.map Ent.d)) [] (L2.start N vs) H where
  len := by
    have := start_len (es := ds.map Ent.d) (vs := vs) (N := N) (by rw [List.length_map, h.length]) hN
    rw [List.length_map] at this; exact this
  slot := fun i e h1 h2 => start_slot (es := ds.map Ent.d) (pairedD h) i e (by rw [List.length_map]; exact h1) h2
  mem := fun p hp => absurd hp (by simp)
  nd := .nil
  alloc := al
  sub := fun _ ha => ha
  gr := Ex.refl _
  base := Ex.refl _
/-- the entry of a def whose first argument is a list that it changes -/
theorem ok_startM {K : PySem.W.Frag} {H : Hp} {N : List Str} {M : List Addr} {b : Addr} {bs : List PyData} {ws : List V} {ds : List PyData} (hb : b ∈ M) (al : ∀ a ∈ M, H a ≠ none) (hm : MOok K (hide M H) H b (.lst bs)) (h : DpAll K (hide M H) ws ds) (hN : ws.length + 1 ≤ N.length) :
    Ok ⟨K, M, hide [b] H, hide M H⟩ M (startE N.length (ds.length + 1) (.m b :: ds.map Ent.d)) [(b, .lst bs)] (L2.start N (.ref b :: ws)) H where
  len := by
    have := start_len (es := Ent.m b :: ds.map Ent.d) (vs := V.ref b :: ws) (N := N) (by rw [List.length_cons, List.length_cons, List.length_map, h.length]) (by rw [List.length_cons]; exact hN)
    rw [List.length_cons, List.length_map] at this; exact this
  slot := fun i e h1 h2 => start_slot (K := K) (Hh := hide M H) (es := Ent.m b :: ds.map Ent.d) (.cons rfl (pairedD h)) i e (by rw [List.length_cons, List.length_map]; exact h1) h2
  mem := fun p hp => by
    have : p = (b, .lst bs) := by simpa using hp
    subst this
    exact ⟨hb, hide_in (by simp), hm⟩
  nd := by simp
  alloc := al
  sub := fun _ ha => ha
  gr := hide_le
  base := Ex.refl _
end FD
/-! further rules: min of data, enumerate of a tuple, a call by keywords alone -/
namespace FD
open PySem PySem.Spec L2 PyProof.Rows PySem.W
section
variable {X : Cx}
def rMinD (K : PySem.W.Frag) : List V → Hp → VK → Prop := fun xs1 H Z => ∃ (a : Addr) (ws : List V) (x : PyData) (xs : List PyData), xs1 = [.ref a] ∧ SqL K H a ws ∧ DpAll K H ws (x :: xs) ∧ AlikeAll (x :: xs) ∧ PyData.depthAll (x :: xs) ≤ 32 ∧
  ∀ (j : Nat) (w : V), ws[j]? = some w → (x :: xs)[j]? = some (minD x xs) → Z w H
theorem vals_back {xs : List V} {us : List Value} (r : Vals xs us) : ∀ {i : Nat} {u : Value}, us[i]? = some u → ∃ x, xs[i]? = some x ∧ RelV x u := by
  induction r with
  | nil => intro i u e; simp at e
  | cons r _ ih =>
    intro i u e
    cases i with
    | zero => exact ⟨_, rfl, by have z := e; simp at z; rw [← z]; exact r⟩
    | succ i =>
      obtain ⟨x, h1, h2⟩ := ih (i := i) (u := u) (by simpa using e)
      exact ⟨x, h1, h2⟩
theorem cr_minD (cm : X.calm = true) (gu : X.A.units + 64 < cLine) : CallR X (.builtin "min") (rMinD X.K) := by
  intro pn sh τ H xs1 us1 Z V0 r h
  obtain ⟨a, ws, x, xs, rfl, hsq, dd, al, dp, w9⟩ := h
  obtain ⟨zs, rZ, gl, _⟩ := V0.list hsq
  rw [Vals.ref1 r]
  obtain ⟨as, rm⟩ := Dp.readsAll V0 _ _ zs dd rZ
  have hn : zs.toArray.size = xs.length + 1 := by
    rw [List.size_toArray, ← rZ.length, dd.length, List.length_cons]
  refine call_min_walkH (iter_listW (A := X.A.in1) (V0.ok.hd cm) gl.isList fun s₂ e W sw hfp hw kp => ?_)
  refine ⟨_, _, _, _, _, _, _, sh.heap, _, rfl, W, sw, hfp, by omega, hw, kp, cmpIn_lt (A := X.A.in1) (vs := zs.toArray) (by simpa using rm) al (by show X.A.units + 1 + _ < _; omega), fun v s' hP m => ?_⟩
  obtain ⟨g1, k1, rfl, hk'⟩ := moved_old e rfl m
  have e1 : zs.toArray.size - 1 = xs.length := by omega
  rw [e1] at hP
  obtain ⟨a1, a2⟩ := argBest_fold dataLt PyData.none x xs xs.length (Nat.le_refl _)
  rw [List.take_length] at a2
  have hP' : zs[argBest (fun i j => dataLt ((x :: xs).getD i PyData.none) ((x :: xs).getD j PyData.none)) xs.length]? = some v := by simpa using hP
  obtain ⟨w, h1, h2⟩ := vals_back rZ hP'
  refine ⟨w, H, V0.kept hk', h2, w9 _ w h1 ?_⟩
  have hlt : argBest (fun i j => dataLt ((x :: xs).getD i PyData.none) ((x :: xs).getD j PyData.none)) xs.length < (x :: xs).length := by rw [List.length_cons]; omega
  rw [List.getD_eq_getElem?_getD] at a2
  rw [List.getElem?_eq_getElem hlt] at a2 ⊢
  rw [Option.getD_some] at a2
  rw [a2]
  rfl

/-! ### enumerate of a tuple -/
theorem meets_enum_newT (l : Addr) (ys : Array Value) (n : Nat) (d0 : Option Addr) (sv : Array (Option Value)) :
    Meets (Builtin.«enumerate.__new__» ⟨[.type "enumerate", .ref l], []⟩) (fun _ R sh => sh.heap.get? l = some { cls := .type "tuple", dict := d0, data := .seq ys n, slots := sv } ∧
      R (.ok (.ret (.ref (sh.heap.push { cls := .type "tuple_iterator", data := .fields #[.ref l, .int 0 0] }).objs.size)))
        { sh with heap := (sh.heap.push { cls := .type "tuple_iterator", data := .fields #[.ref l, .int 0 0] }).push { cls := .type "enumerate", data := .fields #[.none, .bool false, .ref sh.heap.objs.size, rawInt 0, .none, .none] } }) :=
  .of_wp fun prog w A R sh h => by
    obtain ⟨hp, g, d, k1, o9⟩ := sh; obtain ⟨gl, h⟩ := h
    have hsub := sub_enumerate
    have gL : Heap.IsTuple (Shared.heap ⟨hp, g, d, k1, o9⟩) l ys := ⟨_, gl, rfl, n, rfl⟩
    wp_walk using AutoSeq1.wpAny_loadPart' gl
    refine wpAny_stack_any fun sw => wpAny_pure ?_
    split
    · rename_i c _ _ _ _ _
      cases (c == Value.type ("enumerate" : String))
      · wp_walk using AutoSeq1.wpAny_loadPart' gl, wpAny_pyIter_tuple gL
        exact ⟨_, rfl, h⟩
      · wp_walk using AutoSeq1.wpAny_loadPart' gl, wpAny_pyIter_tuple gL
        exact ⟨_, rfl, h⟩
    · wp_walk using AutoSeq1.wpAny_loadPart' gl, wpAny_pyIter_tuple gL
      exact ⟨_, rfl, h⟩
theorem call_enumT {prog : Program} {w : World} {A : Around} {E : Value → Shared → Prop} {sh : Shared} {l : Addr} {ys : Array Value} {Z : Value → Shared → Prop} (gL : sh.heap.IsTuple l ys)
    (h : ∀ g1, IsEnum g1 (sh.heap.objs.size + 1) sh.heap.objs.size 0 .none → g1.IsTupleIter sh.heap.objs.size l 0 → g1.objs.size = sh.heap.objs.size + 2 →
      (∀ b o, sh.heap.get? b = some o → g1.get? b = some o) → Z (.ref (sh.heap.objs.size + 1)) { sh with heap := g1 }) :
    wpAny (model prog w) A (call (.type "enumerate") [.ref l]) Z E sh := by
  obtain ⟨⟨c, d0, dt, sv⟩, gl, cm, n, dd⟩ := gL
  replace cm : c = .type "tuple" := cm
  replace dd : dt = .seq ys n := dd
  subst cm dd
  refine callType_new PySem.F.called_enumerate (by decide) (PySem.F.typeCall_enumerate_1 _) (PySem.F.newCall_enumerate_1 _) (fun obj => PySem.F.args_object_init_2 obj _) PySem.F.entry_enumerate_new
    (meets_enum_newT l ys n d0 sv) ⟨gl, ?_⟩
  have gz : (sh.heap.push { cls := .type "tuple_iterator", data := .fields #[.ref l, .int 0 0] }).objs.size = sh.heap.objs.size + 1 := Heap.size_push ..
  show _ ∧ _
  rw [gz]
  have hE : IsEnum ((sh.heap.push { cls := .type "tuple_iterator", data := .fields #[.ref l, .int 0 0] }).push
      { cls := .type "enumerate", data := .fields #[.none, .bool false, .ref sh.heap.objs.size, rawInt 0, .none, .none] }) (sh.heap.objs.size + 1) sh.heap.objs.size 0 .none := by
    have := Heap.get?_push_size (sh.heap.push { cls := .type "tuple_iterator", data := .fields #[.ref l, .int 0 0] })
      (o := { cls := .type "enumerate", data := .fields #[.none, .bool false, .ref sh.heap.objs.size, rawInt 0, .none, .none] }) rfl
    rw [gz] at this; exact this
  refine ⟨⟨_, hE, rfl⟩, h _ hE ⟨_, Heap.get?_push_of_some _ (Heap.get?_push_size _ rfl), rfl, rfl⟩ (by rw [Heap.size_push, gz]) fun b o x => Heap.get?_push_of_some _ (Heap.get?_push_of_some _ x)⟩
/-- a tuple enumerated: each item in a nw pair -/
def IteT (K : PySem.W.Frag) (a : Addr) : It :=
  ⟨fun i H => ∃ (xs : List V) (x : V), SqT K H a xs ∧ xs[i]? = some x, fun i H v H' => ∃ T x, v = .ref T ∧ H T = none ∧ H' = upd H T (.tup [.int (i : Nat), x]) ∧ ∀ xs, SqT K H a xs → xs[i]? = some x, fun i H => ∃ xs : List V, SqT K H a xs ∧ xs.length = i⟩
theorem turn_enumT {P : Program} {w : World} {K : PySem.W.Frag} {elts : List Expr} {kk : Nat} {tpos : Pos} (a e it : Addr) (hai : a ≠ it) (hae : a ≠ e) :
    Turn P w K (.Tuple elts kk tpos) (IteT K a) [e, it] e (fun i h => (∃ w0, IsEnum h e it ((i : Nat) : Int) w0) ∧ h.IsTupleIter it a i ∧ e ≠ it) where
  mem := by simp
  obj := fun i h sw b hb => by
    obtain ⟨⟨w0, hE⟩, ⟨o, ho, cm, dd⟩, _⟩ := sw
    have eb : b = e ∨ b = it := by simpa using hb
    rcases eb with z | z
    · rw [z]; exact ⟨_, hE, fun v w9 => nomatch w9⟩
    · rw [z]; exact ⟨o, ho, fun v w9 => by rw [dd] at w9; cases w9⟩
  keep := fun i h g1 sw k => let ⟨⟨w0, hE⟩, hi, nE⟩ := sw; ⟨⟨w0, k e (by simp) _ hE⟩, hi.at fun o w9 => k it (by simp) o w9, nE⟩
  item := by
    intro X hP hw hK cm i pn sh τ H E V0 ff sw gg
    subst hP hw hK
    obtain ⟨⟨w0, hE⟩, hT, nE⟩ := sw
    obtain ⟨xs, x, sq, gx⟩ := gg
    obtain ⟨zs, rZ, p, gz⟩ := V0.tuple sq
    obtain ⟨y0, gu, rU⟩ := rZ.get gx
    have hel : e < sh.heap.objs.size := Heap.lt_size hE
    have hil : it < sh.heap.objs.size := by obtain ⟨_, w9, _⟩ := hT; exact Heap.lt_size w9
    have hlt : i < zs.toArray.size := by
      rw [List.size_toArray]; exact (List.getElem?_eq_some_iff.mp gu).1
    refine wpAny_pyNext_enum_itemD (Draws.tuple (A := X.A.in1) (V0.ok.hd cm) it a hai zs.toArray) hE ⟨hT, p⟩ hlt nE (by simp [nE, Ne.symm hae]) fun y1 g1 k1 hu' ho hst' hT gz kp => ?_
    obtain ⟨hit', _⟩ := hst'
    have eu : y1 = y0 := by
      have : zs[i]? = some y1 := by simpa using hu'
      rw [gu] at this; exact (Option.some.inj this).symm
    subst eu
    refine ⟨_, rfl, wpAny_letOwnedTupleGo_enum (s := { sh with heap := g1, toks := k1 + 1 }) ho fun g2 he' sb => ?_⟩
    have hT2 : g2.get? sh.heap.objs.size = some { cls := .type "tuple", data := .seq #[.int i k1, y1] } := (sb.2 _ (Nat.ne_of_gt hel)).trans hT
    have nw : ObjOk X.prog X.w (upd H sh.heap.objs.size (.tup [.int (i : Nat), x])) g2 sh.heap.objs.size (.tup [.int (i : Nat), x]) :=
      ⟨by show 2 ≤ sizeLine; decide, [.int i k1, y1], .cons ⟨_, rfl⟩ (.cons rU .nil), ⟨_, hT2, rfl, _, rfl⟩⟩
    have V1 : Inv X pn τ (upd H sh.heap.objs.size (.tup [.int (i : Nat), x])) { sh with heap := g2, toks := k1 + 1 } :=
      V0.turnedNew (ch := [e, it]) (fun b o8 hb w9 => (sb.2 b (fun z => hb (by simp [z]))).trans (kp b o8 (fun z => hb (by simp [z])) (fun z => hb (by simp [z])) w9)) ff (Nat.le_refl _) nw
    refine ⟨.ref sh.heap.objs.size, _, V1, rfl, ⟨_, x, rfl, V0.hok.fresh (Nat.le_refl _), rfl, fun ys hy => by rw [V0.tuple_inj hy sq]; exact gx⟩, ⟨⟨y1, ?_⟩, hit'.at fun o w9 => (sb.2 it (Ne.symm nE)).trans w9, nE⟩, fun b hb => ?_⟩
    · have up1 : ((i + 1 : Nat) : Int) = (i : Int) + 1 := by omega
      rw [up1]; exact he'
    · have lb : b < sh.heap.objs.size := by
        have eb : b = e ∨ b = it := by simpa using hb
        rcases eb with z | z
        · rw [z]; exact hel
        · rw [z]; exact hil
      rw [upd_ne (Nat.ne_of_lt lb)]
      exact (ff b hb).1
  done := by
    intro X hP hw hK cm i pn sh τ H E V0 ff sw gg
    subst hP hw hK
    obtain ⟨⟨w0, hE⟩, hT, nE⟩ := sw
    obtain ⟨xs, sq, gx⟩ := gg
    obtain ⟨zs, rZ, p, gz⟩ := V0.tuple sq
    obtain ⟨f0, f1, f2, f3, f4, f5⟩ := ff it (by simp)
    have gl : i = zs.toArray.size := by rw [List.size_toArray, ← rZ.length, gx]
    subst gl
    refine wpAny_pyNext_enum_endD (Draws.tuple (A := X.A.in1) (V0.ok.hd cm) it a hai zs.toArray) hE ⟨hT, p⟩ fun g1 eb => ⟨rfl, V0.turned (t' := sh.toks) (fun b o hb w9 => eb b o hb w9) f0 f1 f3 f4 f5⟩
  self := fun A i sh Z E sw h => let ⟨⟨_, hE⟩, _⟩ := sw; wpAny_pyIter_enum hE h
def iEnumT (K : PySem.W.Frag) (ta : TA) : TI := fun τ H R => ta τ H fun xs1 H1 => ∃ a xs, xs1 = [.ref a] ∧ SqT K H1 a xs ∧ R (IteT K a) H1
theorem pi_enumT {e : Expr} {ta : TA} {p pos tpos : Pos} {elts : List Expr} {kk : Nat} (gg : Gl X "enumerate") (mm : X.mg "enumerate" = none) (pa0 : PA X [e] ta) (hsq : starEach [e] X.env = [(false, eval e X.env)] := by rfl) :
    PI X (.Tuple elts kk tpos) (.Call (.Name "enumerate" p) [e] [] pos) (iEnumT X.K ta) := by
  refine ⟨fun pn sh τ H R V0 h => ?_⟩
  refine Call_ (ld_blt V0 gg mm boot_enumerate (PyProof.Rows.callWith_type1 (thn (pa0.run pos pn sh τ H _ V0 h) fun us1 s1 ⟨xs1, H1, V1, r1, q1⟩ => ?_) hsq rfl))
  obtain ⟨a, xs, ex, sq, w9⟩ := q1
  subst ex
  cases r1 with
  | cons r rr =>
    cases rr
    cases r
    obtain ⟨zs, rZ, p', gz⟩ := V1.tuple sq
    obtain ⟨oa, hoa, _⟩ := id p'
    have la : a < s1.heap.objs.size := Heap.lt_size hoa
    refine call_enumT p' fun g1 hE hT gz kp => wpAny_pyIter_enum hE ?_
    have V2 : Inv X pn τ H1 { s1 with heap := g1 } := V1.kept (t' := s1.toks) kp
    refine ⟨s1.heap.objs.size + 1, [s1.heap.objs.size + 1, s1.heap.objs.size], _, _, H1, rfl, V2, turn_enumT a (s1.heap.objs.size + 1) s1.heap.objs.size (Nat.ne_of_lt la) (Nat.ne_of_lt (Nat.lt_succ_of_lt la)), ⟨⟨.none, hE⟩, hT, Nat.succ_ne_self _⟩, fun b hb => ?_, w9⟩
    have eb : b = s1.heap.objs.size + 1 ∨ b = s1.heap.objs.size := by simpa using hb
    have ge0 : s1.heap.objs.size ≤ b := by
      rcases eb with z | z
      · rw [z]; exact Nat.le_succ _
      · rw [z]; exact Nat.le_refl _
    exact V1.fpOk ge0 (V1.hok.fresh ge0)
end
/-! ### f(k = v, ..) -/
section
variable {X : Cx} {CX : CXT} {k n : Nat} {f : Addr} {fd : FuncData} {ps ks : List Str} {sp : Sp} {E : XK} {x : Str} {p pos : Pos} {kws : List Keyword} {k1 : TA} {g : List Value → List Value → List Value} {gV : List V → List V → List V}
theorem pe_callN0 (F : FnOk X.prog X.w X.K X.mg X.base CX k f fd ps sp) (rm : Room k X.A) (gg : Gl X x) (mm : X.mg x = some (.ref f)) (kp : PySem.W.keepIn X.K (.ref f) = true) (hb : KBn X.K fd ps 0 ks g gV) (gx : Passes CX X E) (kW : PK X kws k1)
    (hAl : (backToKw pos (keywordEach kws X.env)).all (·.1.isSome) = true := by rfl) (hKs : (backToKw pos (keywordEach kws X.env)).filterMap (·.1) = ks := by rfl) (hDb : (x == ("__debug__" : Str)) = false := by decide)
    (hPl : ((backTo pos (starEach [] X.env)).any (·.1) || (backToKw pos (keywordEach kws X.env)).any (·.1.isNone)) = false := by rfl) :
    PE X (.Call (.Name x p) [] kws pos) (tCallN 0 ks.length sp gV E tNil k1) := by
  refine ⟨fun pn sh τ H Z V0 h => ?_⟩
  refine wpAny_Call_Name_kw (ld_glob V0 gg mm ?_ hDb)
  refine PySem.W.callWith_KW0 (h₀ := X.base) V0.ok.mod.kin kp hAl ?_ hPl
  refine thn (kW.run pos pn sh τ H _ V0 h) fun ws s2 ⟨zs, H2, V2, rz0, l1, l2, q2⟩ => ⟨V2.kIn, ?_⟩
  rw [hKs]
  exact run_fnN (us := []) (vs := []) F rm hb gx V2 .nil rz0 rfl l2 q2
end
end FD
namespace FD
open PySem L2 Evl
section
variable {C : Cfg} {M M' : List Addr} {δ δ' : List Ent} {μ μ' μ1 μ2 : Mem} {e : Ent} {ta tb te : TE} {tr tr' : TA}
theorem c_minD {x : PyData} {xs : List PyData} (r : Rdd μ e (.list (x :: xs))) (ha : PySem.W.AlikeAll (x :: xs)) (hd : PyData.depthAll (x :: xs) ≤ 32) : CallX C (rMinD C.K) M δ μ μ [e] (.d (PySem.W.minD x xs)) := fun σ H vs o h Q k => by
  obtain ⟨v, rfl, q⟩ := p1 h
  obtain ⟨a, ws, q1, q2, q3⟩ := r.lst o q
  refine ⟨a, ws, x, xs, by rw [q1], q2, dpAll_mono hide_le _ _ q3, ha, hd, fun j w h1 h2 => ?_⟩
  obtain ⟨w', g1, g2⟩ := q3.get h2
  rw [h1] at g1
  cases g1
  exact k w H o (Ex.refl _) g2
theorem w_enumT {K : PySem.W.Frag} {Hh : Hp} {a : Addr} {vs : List V} {xs : List PyData} (h : SqT K Hh a vs) (hd : DpAll K Hh vs xs) : WalkD K (IteT K a) Hh (enumD xs) where
  go := fun M i H hi _ x => by
    rw [enumD_length, ← hd.length] at hi
    exact ⟨vs, vs[i], ex_t (x.trans hide_le) h, by simp [hi]⟩
  stop := fun M H _ x => ⟨vs, ex_t (x.trans hide_le) h, by rw [enumD_length, hd.length]⟩
  yld := fun M i H y H' hi al x q => by
    rw [enumD_length] at hi
    obtain ⟨T, v, rfl, hT, rfl, qv⟩ := q
    obtain ⟨v', g1, g2⟩ := hd.get (i := i) (d := xs[i]) (by simp [hi])
    have e1 := qv vs (ex_t (x.trans hide_le) h)
    rw [g1] at e1; cases e1
    obtain ⟨r1, r2⟩ := new_pair al hT (Dp.int (i : Nat)) (dp_mono x _ _ g2)
    exact ⟨r1, _, enumD_get (by simp [hi]), r2⟩
theorem i_enumT {xs : List PyData} (h : EvA C tr M δ μ μ' [.d (.tuple xs)]) : EvI C (iEnumT C.K tr) M δ μ μ' (enumD xs) := fun σ H o R k => h σ H o _ fun vs H1 o1 x1 r => by
  obtain ⟨v, rfl, q⟩ := p1 r
  obtain ⟨a, vs, g1, g2, g3⟩ := Dp.tup_of q
  exact ⟨a, vs, by rw [g1], ex_t hide_le g2, k _ H1 o1 x1 (w_enumT g2 g3)⟩
/-- f(k = v, ..), all data: the values in the parameters' order -/
theorem x_callN {n m : Nat} {Pre : List PyData → Prop} {F : List PyData → PyData} {ds es : List PyData} {E : XK} {gV : List V → List V → List V} (h : EvA C tr' M δ μ μ' (es.map Ent.d)) (hm : es.length = m)
    (hg : ∀ (H : Hp) (zs : List V), DpAll C.K H zs es → DpAll C.K H (gV [] zs) ds) (hn : ds.length = n) (hp : Pre ds) : EvX C (tCallN 0 m (spD C.K n Pre F) gV E tNil tr') M δ μ μ' (.d (F ds)) := fun σ H o Q k =>
  h σ H o _ fun vs H1 o1 x1 r1 => by
    have d1 := hg _ _ (dpAll_of r1)
    refine ⟨rfl, by rw [(dpAll_of r1).length]; exact hm, by rw [d1.length]; exact hn, M, ds, o1.alloc, d1, hp, fun v H2 e2 d2 => ?_⟩
    exact k v H2 (o1.grow e2) (x1.trans (hide_ex e2)) d2
end
end FD
/-! promises by a relation between what is handed in and what comes back; a def's proof -/
namespace FD
open PySem L2 Evl
def spR (K : PySem.W.Frag) (n : Nat) (R : List PyData → PyData → Prop) : Sp := fun vs H Q _ => vs.length = n ∧ ∃ M ds d, (∀ a ∈ M, H a ≠ none) ∧ DpAll K (hide M H) vs ds ∧ R ds d ∧ ∀ v H', Ex H H' → Dp K (hide M H') v d → Q v H'
def spW (K : PySem.W.Frag) (n : Nat) (R : List PyData → List PyData → PyData → List PyData → Prop) : Sp := fun vs H Q _ =>
  vs.length = n ∧ ∃ M b bs ws ds d bs', vs = .ref b :: ws ∧ b ∈ M ∧ (∀ a ∈ M, H a ≠ none) ∧ MOok K (hide M H) H b (.lst bs) ∧ DpAll K (hide M H) ws ds ∧ R bs ds d bs' ∧
    ∀ v H', Ex (hide [b] H) H' → MOok K (hide M H') H' b (.lst bs') → Dp K (hide M H') v d → Q v H'
section
variable {C : Cfg} {M : List Addr} {δ : List Ent} {μ μ' : Mem} {tr tr' : TA}
theorem x_callR {n : Nat} {R : List PyData → PyData → Prop} {ds : List PyData} {d : PyData} {E : XK} (h : EvA C tr M δ μ μ' (ds.map Ent.d)) (hp : R ds d) (hn : ds.length = n := by rfl) : EvX C (tCall (spR C.K n R) [] E tr) M δ μ μ' (.d d) := fun σ H o Q k =>
  h σ H o _ fun vs H1 o1 x1 r1 => by
    rw [List.append_nil]
    refine ⟨by rw [(dpAll_of r1).length]; exact hn, M, ds, d, o1.alloc, dpAll_of r1, hp, fun v H2 e2 d2 => ?_⟩
    exact k v H2 (o1.grow e2) (x1.trans (hide_ex e2)) d2
theorem x_callW {n : Nat} {R : List PyData → List PyData → PyData → List PyData → Prop} {ds bs bs' : List PyData} {d : PyData} {E : XK} {b : Addr} (j : Nat)
    (h : EvA C tr M δ μ μ' (.m b :: ds.map Ent.d)) (hp : R bs ds d bs') (hj : μ'[j]? = some (b, .lst bs) := by rfl) (hn : ds.length + 1 = n := by rfl) : EvX C (tCall (spW C.K n R) [] E tr) M δ μ (μ'.set j (b, .lst bs')) (.d d) := fun σ H o Q k =>
  h σ H o _ fun vs H1 o1 x1 r1 => by
    rw [List.append_nil]
    cases r1 with
    | cons r0 rr =>
      have e0 : _ = V.ref b := r0
      subst e0
      have hb := o1.mem _ (List.mem_of_getElem? hj)
      refine ⟨by rw [List.length_cons, (dpAll_of rr).length]; exact hn, M, b, bs, _, ds, d, bs', rfl, hb.1, o1.alloc, hb.2.2, dpAll_of rr, hp, fun v H2 e2 m2 d2 => ?_⟩
      obtain ⟨o2, x2⟩ := after_mut o1 hj e2 m2
      exact k v H2 o2 (x1.trans x2) d2
theorem x_callRN {n m : Nat} {R : List PyData → PyData → Prop} {ds es : List PyData} {d : PyData} {E : XK} {gV : List V → List V → List V} (h : EvA C tr' M δ μ μ' (es.map Ent.d)) (hg : ∀ (H : Hp) (zs : List V), DpAll C.K H zs es → DpAll C.K H (gV [] zs) ds) (hp : R ds d)
    (hm : es.length = m := by rfl) (hn : ds.length = n := by rfl) : EvX C (tCallN 0 m (spR C.K n R) gV E tNil tr') M δ μ μ' (.d d) := fun σ H o Q k =>
  h σ H o _ fun vs H1 o1 x1 r1 => by
    have d1 := hg _ _ (dpAll_of r1)
    refine ⟨rfl, by rw [(dpAll_of r1).length]; exact hm, by rw [d1.length]; exact hn, M, ds, d, o1.alloc, d1, hp, fun v H2 e2 d2 => ?_⟩
    exact k v H2 (o1.grow e2) (x1.trans (hide_ex e2)) d2
end
section
variable {P : Program} {w : World} {K : PySem.W.Frag} {mg : Str → Option Value} {base : Heap}
theorem def_R {x qual : Str} {st : Stmt} {f : Addr} {fd : FuncData} {N ps : List Str} {k : Nat} {R : List PyData → PyData → Prop} (F : Fun K x qual st f fd) (S : FnScope N ps (defScope st)) (hN : ps.length ≤ N.length)
    (h : ∀ (cdv : Value) (A : Around) (outer : List Env) (s : Shared) (H : Hp) (E : XK), Room k (A.deeper (PyProof.Rows.envOfC qual (defScope st) s.heap.objs.size f cdv)) →
      ∃ t, PSs (cxOf CX0 P w K mg base N qual (defScope st) f cdv A outer s H E).nox (defBody st) t ∧
        ∀ (M : List Addr) (G B : Hp) (ds : List PyData) (d : PyData), ds.length = ps.length → R ds d → ∀ D : Ends, Fin ⟨K, M, G, B⟩ D d → Run ⟨K, M, G, B⟩ t D M (startE N.length ds.length (ds.map Ent.d)) []) :
    FnOk P w K mg base CX0 (k + 1) f fd ps (spR K ps.length R) := by
  refine F.ok S (fun vs H Q E hs => hs.1) fun cdv A outer s H vs Q E hr hs => ?_
  obtain ⟨hn, M, ds, d, al, hd, hR, kk⟩ := hs
  obtain ⟨t, ht, run⟩ := h cdv A outer s H E hr
  exact ⟨t, ht, run M H (hide M H) ds d (by rw [← hd.length]; exact hn) hR _ (fun v H' e r => kk v H' e r) _ _ (ok_startD al hd (by rw [hn]; exact hN))⟩
theorem def_W {x qual : Str} {st : Stmt} {f : Addr} {fd : FuncData} {N ps : List Str} {k n : Nat} {R : List PyData → List PyData → PyData → List PyData → Prop} (F : Fun K x qual st f fd) (S : FnScope N ps (defScope st)) (hN : ps.length ≤ N.length) (hp : ps.length = n)
    (h : ∀ (cdv : Value) (A : Around) (outer : List Env) (s : Shared) (H : Hp) (E : XK), Room k (A.deeper (PyProof.Rows.envOfC qual (defScope st) s.heap.objs.size f cdv)) →
      ∃ t, PSs (cxOf CX0 P w K mg base N qual (defScope st) f cdv A outer s H E).nox (defBody st) t ∧
        ∀ (M : List Addr) (G B : Hp) (b : Addr) (bs ds : List PyData) (d : PyData) (bs' : List PyData), ds.length + 1 = n → R bs ds d bs' → ∀ D : Ends,
          (∀ (v : V) (M' : List Addr) (H' : Hp), Ex G H' → (∀ a ∈ M, a ∈ M') → MOok K (hide M' H') H' b (.lst bs') → Dp K (hide M' H') v d → D.rt v H') → Run ⟨K, M, G, B⟩ t D M (startE N.length (ds.length + 1) (.m b :: ds.map Ent.d)) [(b, .lst bs)]) :
    FnOk P w K mg base CX0 (k + 1) f fd ps (spW K n R) := by
  refine F.ok S (fun vs H Q E hs => hs.1.trans hp.symm) fun cdv A outer s H vs Q E hr hs => ?_
  obtain ⟨hn, M, b, bs, ws, ds, d, bs', rfl, hb, al, hm, hd, hR, kk⟩ := hs
  obtain ⟨t, ht, run⟩ := h cdv A outer s H E hr
  have hl : ws.length + 1 = n := by rw [List.length_cons] at hn; exact hn
  exact ⟨t, ht, run M (hide [b] H) (hide M H) b bs ds d bs' (by rw [← hd.length]; exact hl) hR _ (fun v M' H' e s m r => kk v H' e (m.mono (hide_sub s) fun _ q => q) (dp_mono (hide_sub s) _ _ r)) _ _ (ok_startM hb al hm hd (by rw [hl, ← hp]; exact hN))⟩
end
section
variable {C : Cfg} {M : List Addr} {δ : List Ent} {μ μ' : Mem} {te : TE} {D : Ends}
/-- handing back data, the changed list with it -/
theorem r_retW {b : Addr} {j : Nat} {mo : MO} {d : PyData} (h : EvX C te M δ μ μ' (.d d)) (hj : μ'[j]? = some (b, mo)) (k : ∀ (v : V) (M' : List Addr) (H' : Hp), Ex C.G H' → (∀ a ∈ C.M0, a ∈ M') → MOok C.K (hide M' H') H' b mo → Dp C.K (hide M' H') v d → D.rt v H') : Run C (tRet te) D M δ μ := fun σ H o => h σ H o _ fun v H1 o1 x1 r =>
  k v M H1 o1.gr o1.sub (o1.mem _ (List.mem_of_getElem? hj)).2.2 r
end
/-! ### the rules with the written part named (within a comprehension) -/
section
variable {X : Cx} {K : PySem.W.Frag}
theorem kix_tup (h : X.K = K) : IxR X (rIxT K) := h ▸ ix_tup
theorem kix_list (h : X.K = K) : IxR X (rIxL K) := h ▸ ix_list
theorem kop_eqD (h : X.K = K) (hu : X.A.units + 64 < cLine) : OpR X (compareOp .Eq) (rEqD K) := h ▸ op_eqD hu
theorem kop_neD (h : X.K = K) (hu : X.A.units + 64 < cLine) : OpR X (compareOp .NotEq) (rNeD K) := h ▸ op_neD hu
theorem klen (h : X.K = K) : CallR X (.builtin "len") (FD.rLenS K) := h ▸ call_len_seq
theorem ktuple (h : X.K = K) : CallR X (.type "tuple") (rTupleS K) := h ▸ call_tuple_of
theorem ksum (h : X.K = K) (hc : X.calm = true) : CallR X (.builtin "sum") (rSum K) := h ▸ cr_sum hc
theorem ksl_tupA (h : X.K = K) : SlR X (rSlA K) := h ▸ sl_tupA
theorem ksl_list (h : X.K = K) : SlR X (rSlL K) := h ▸ sl_list
theorem kop_catA (h : X.K = K) : OpR X (binaryOp .Add) (rCatA K) := h ▸ op_catA
end
/-! ### promises where the def chooses what comes back -/
def spP (K : PySem.W.Frag) (n : Nat) (Pre : List PyData → Prop) (Post : List PyData → PyData → Prop) : Sp := fun vs H Q _ => vs.length = n ∧ ∃ M ds, (∀ a ∈ M, H a ≠ none) ∧ DpAll K (hide M H) vs ds ∧ Pre ds ∧ ∀ v H' d, Post ds d → Ex H H' → Dp K (hide M H') v d → Q v H'
section
variable {P : Program} {w : World} {K : PySem.W.Frag} {mg : Str → Option Value} {base : Heap}
theorem def_P {x qual : Str} {st : Stmt} {f : Addr} {fd : FuncData} {N ps : List Str} {k : Nat} {Pre : List PyData → Prop} {Post : List PyData → PyData → Prop} (F : Fun K x qual st f fd) (S : FnScope N ps (defScope st)) (hN : ps.length ≤ N.length)
    (h : ∀ (cdv : Value) (A : Around) (outer : List Env) (s : Shared) (H : Hp) (E : XK), Room k (A.deeper (PyProof.Rows.envOfC qual (defScope st) s.heap.objs.size f cdv)) →
      ∃ t, PSs (cxOf CX0 P w K mg base N qual (defScope st) f cdv A outer s H E).nox (defBody st) t ∧
        ∀ (M : List Addr) (G B : Hp) (ds : List PyData), ds.length = ps.length → Pre ds → ∀ D : Ends, (∀ d, Post ds d → Fin ⟨K, M, G, B⟩ D d) → Run ⟨K, M, G, B⟩ t D M (startE N.length ds.length (ds.map Ent.d)) []) :
    FnOk P w K mg base CX0 (k + 1) f fd ps (spP K ps.length Pre Post) := by
  refine F.ok S (fun vs H Q E hs => hs.1) fun cdv A outer s H vs Q E hr hs => ?_
  obtain ⟨hn, M, ds, al, hd, hR, kk⟩ := hs
  obtain ⟨t, ht, run⟩ := h cdv A outer s H E hr
  exact ⟨t, ht, run M H (hide M H) ds (by rw [← hd.length]; exact hn) hR _ (fun d hp v H' e r => kk v H' d hp e r) _ _ (ok_startD al hd (by rw [hn]; exact hN))⟩
end
section
variable {C : Cfg} {M : List Addr} {δ : List Ent} {μ μ' : Mem} {tr tr' : TA} {D : Ends} {t2 : TS}
theorem r_asgP {i n : Nat} {Pre : List PyData → Prop} {Post : List PyData → PyData → Prop} {ds : List PyData} {E : XK} (h : EvA C tr M δ μ μ' (ds.map Ent.d)) (hp : Pre ds) (k : ∀ d, Post ds d → Nx C D M (δ.set i (.d d)) μ') (hn : ds.length = n := by rfl) :
    Run C (tAsg (tCall (spP C.K n Pre Post) [] E tr) (gName i)) D M δ μ := fun σ H o => h σ H o _ fun vs H1 o1 x1 r1 => by
  rw [List.append_nil]
  refine ⟨by rw [(dpAll_of r1).length]; exact hn, M, ds, o1.alloc, dpAll_of r1, hp, fun v H2 d hd e2 d2 => ?_⟩
  exact k d hd _ _ ((o1.grow e2).set i (e := .d d) d2)
theorem q_asgP {i n : Nat} {Pre : List PyData → Prop} {Post : List PyData → PyData → Prop} {ds : List PyData} {E : XK} (h : EvA C tr M δ μ μ' (ds.map Ent.d)) (hp : Pre ds) (k : ∀ d, Post ds d → Run C t2 D M (δ.set i (.d d)) μ') (hn : ds.length = n := by rfl) :
    Run C (tSeq (tAsg (tCall (spP C.K n Pre Post) [] E tr) (gName i)) t2) D M δ μ := r_asgP (D := { D with nx := t2 D }) h hp k hn
/-- x = f(k = v, ..) -/
theorem q_asgPN {i n m : Nat} {Pre : List PyData → Prop} {Post : List PyData → PyData → Prop} {ds es : List PyData} {E : XK} {gV : List V → List V → List V} (h : EvA C tr' M δ μ μ' (es.map Ent.d)) (hg : ∀ (H : Hp) (zs : List V), DpAll C.K H zs es → DpAll C.K H (gV [] zs) ds) (hp : Pre ds)
    (k : ∀ d, Post ds d → Run C t2 D M (δ.set i (.d d)) μ') (hm : es.length = m := by rfl) (hn : ds.length = n := by rfl) :
    Run C (tSeq (tAsg (tCallN 0 m (spP C.K n Pre Post) gV E tNil tr') (gName i)) t2) D M δ μ := fun σ H o => h σ H o _ fun vs H1 o1 x1 r1 => by
  have d1 := hg _ _ (dpAll_of r1)
  refine ⟨rfl, by rw [(dpAll_of r1).length]; exact hm, by rw [d1.length]; exact hn, M, ds, o1.alloc, d1, hp, fun v H2 d hd e2 d2 => ?_⟩
  exact k d hd _ _ ((o1.grow e2).set i (e := .d d) d2)
end
/-! ### shapes -/
theorem canLay_all : ∀ {l : List PyData}, (∀ d ∈ l, d.canLay0 = true) → PyData.canLayAll0 l = true
  | [], _ => by simp [PyData.canLayAll0]
  | x :: l, h => by
    rw [PyData.canLayAll0, h x List.mem_cons_self, canLay_all fun d hd => h d (List.mem_cons_of_mem _ hd)]
    rfl
theorem depth_all {n : Nat} : ∀ {l : List PyData}, (∀ d ∈ l, d.depth ≤ n) → PyData.depthAll l ≤ n
  | [], _ => by simp [PyData.depthAll]
  | x :: l, h => by
    rw [PyData.depthAll]
    exact Nat.max_le.mpr ⟨h x List.mem_cons_self, depth_all fun d hd => h d (List.mem_cons_of_mem _ hd)⟩
/-- data nested n deep at most -/
def Shp (n : Nat) (d : PyData) : Prop := d.canLay0 = true ∧ d.depth ≤ n
theorem Shp.shaped {n : Nat} {d : PyData} (h : Shp n d) (hn : n ≤ 64) : SeqAt.shaped d = true := by
  unfold SeqAt.shaped
  rw [h.1, decide_eq_true (Nat.le_trans h.2 hn)]
  rfl
theorem shp_int (n : Nat) (i : Int) : Shp n (.int i) := ⟨by simp [PyData.canLay0], by simp [PyData.depth]⟩
theorem shp_bool (n : Nat) (i : Bool) : Shp n (.bool i) := ⟨by simp [PyData.canLay0], by simp [PyData.depth]⟩
theorem shp_none (n : Nat) : Shp n .none := ⟨by simp [PyData.canLay0], by simp [PyData.depth]⟩
theorem shp_list {n : Nat} {l : List PyData} (h : ∀ d ∈ l, Shp n d) : Shp (n + 1) (.list l) := ⟨by rw [PyData.canLay0]; exact canLay_all fun d hd => (h d hd).1, by rw [PyData.depth]; exact Nat.succ_le_succ (depth_all fun d hd => (h d hd).2)⟩
theorem shp_tuple {n : Nat} {l : List PyData} (h : ∀ d ∈ l, Shp n d) : Shp (n + 1) (.tuple l) := ⟨by rw [PyData.canLay0]; exact canLay_all fun d hd => (h d hd).1, by rw [PyData.depth]; exact Nat.succ_le_succ (depth_all fun d hd => (h d hd).2)⟩
theorem shp_ints (n : Nat) (l : List Int) : Shp (n + 1) (.list (l.map .int)) := shp_list fun d hd => by
  obtain ⟨i, _, rfl⟩ := List.mem_map.mp hd
  exact shp_int n i
theorem shp_tints (n : Nat) (l : List Int) : Shp (n + 1) (.tuple (l.map .int)) := shp_tuple fun d hd => by
  obtain ⟨i, _, rfl⟩ := List.mem_map.mp hd
  exact shp_int n i
theorem shp_nil (n : Nat) : Shp (n + 1) (.list []) := shp_list fun d hd => by cases hd
theorem eqv_int (i j : Int) : PyData.eqv (.int i) (.int j) = (i == j) := by simp [PyData.eqv]
theorem eqv_ints : ∀ (xs ys : List Int), PyData.eqvAll (xs.map .int) (ys.map .int) = (xs == ys)
  | [], [] => by simp [PyData.eqvAll]
  | [], _ :: _ => by simp [PyData.eqvAll]
  | _ :: _, [] => by simp [PyData.eqvAll]
  | x :: xs, y :: ys => by
    rw [List.map_cons, List.map_cons, PyData.eqvAll, eqv_ints xs ys, eqv_int]
    rfl
/-! ### where the lists stay as they are -/
section
variable {C : Cfg} {M : List Addr} {δ : List Ent} {μ μ1 : Mem} {te ta tb : TE} {t : TT} {D : Ends} {e : Ent} {b : Bool} {tr : TA}
theorem x_cbP {r : List V → Hp → VK → Prop} {es : List Ent} (h : EvA C tr M δ μ μ1 es) (hr : CallX C r M δ μ1 μ1 es e) : EvX C (tCB r tr) M δ μ μ1 e := x_cb h hr
theorem x_ifP (h : EvT C t M δ μ μ1 b) (h1 : b = true → EvX C ta M δ μ1 μ1 e) (h2 : b = false → EvX C tb M δ μ1 μ1 e) : EvX C (tIf t ta tb) M δ μ μ1 e := x_if h h1 h2
theorem r_retP {d : PyData} (h : EvX C te M δ μ μ (.d d)) (k : Fin C D d) : Run C (tRet te) D M δ μ := r_retD h k
end
end FD
/-! promises that hand back a new list, which the caller may change; types of data; sequences of either kind -/
namespace FD
open PySem L2 Evl
/-- a new list comes back -/
def spN (K : PySem.W.Frag) (n : Nat) (R : List PyData → List PyData → Prop) : Sp := fun vs H Q _ => vs.length = n ∧ ∃ M ds es, (∀ a ∈ M, H a ≠ none) ∧ DpAll K (hide M H) vs ds ∧ R ds es ∧
  ∀ p H' ws, H p = none → Ex H H' → H' p = some (.lst ws) → DpAll K (hide (p :: M) H') ws es → Q (.ref p) H'
def FinN (C : Cfg) (D : Ends) (es : List PyData) : Prop := ∀ p H ws, C.G p = none → p ∉ C.M0 → Ex C.G H → H p = some (.lst ws) → DpAll C.K (hide (p :: C.M0) H) ws es → D.rt (.ref p) H
section
variable {P : Program} {w : World} {K : PySem.W.Frag} {mg : Str → Option Value} {base : Heap}
theorem def_N {x qual : Str} {st : Stmt} {f : Addr} {fd : FuncData} {N ps : List Str} {k : Nat} {R : List PyData → List PyData → Prop} (F : Fun K x qual st f fd) (S : FnScope N ps (defScope st)) (hN : ps.length ≤ N.length)
    (h : ∀ (cdv : Value) (A : Around) (outer : List Env) (s : Shared) (H : Hp) (E : XK), Room k (A.deeper (PyProof.Rows.envOfC qual (defScope st) s.heap.objs.size f cdv)) →
      ∃ t, PSs (cxOf CX0 P w K mg base N qual (defScope st) f cdv A outer s H E).nox (defBody st) t ∧
        ∀ (M : List Addr) (G B : Hp) (ds es : List PyData), ds.length = ps.length → R ds es → ∀ D : Ends, FinN ⟨K, M, G, B⟩ D es → Run ⟨K, M, G, B⟩ t D M (startE N.length ds.length (ds.map Ent.d)) []) :
    FnOk P w K mg base CX0 (k + 1) f fd ps (spN K ps.length R) := by
  refine F.ok S (fun vs H Q E hs => hs.1) fun cdv A outer s H vs Q E hr hs => ?_
  obtain ⟨hn, M, ds, es, al, hd, hR, kk⟩ := hs
  obtain ⟨t, ht, run⟩ := h cdv A outer s H E hr
  exact ⟨t, ht, run M H (hide M H) ds es (by rw [← hd.length]; exact hn) hR _ (fun p H' ws hp _ e q r => kk p H' ws hp e q r) _ _ (ok_startD al hd (by rw [hn]; exact hN))⟩
end
section
variable {C : Cfg} {M : List Addr} {δ : List Ent} {μ μ' μ1 μ2 : Mem} {tr tr' : TA} {D : Ends} {t2 : TS} {te tb ta : TE} {e2 : Ent} {i j : Nat}
/-- return [..] -/
theorem r_retN {es : List PyData} (h : EvA C tr M δ μ μ' (es.map Ent.d)) (hl : es.length ≤ 100000) (k : FinN C D es) : Run C (tRet (tLst tr)) D M δ μ := fun σ H o => h σ H o _ fun vs H1 o1 x1 r1 => ⟨by rw [(dpAll_of r1).length]; exact sz_of hl, fun p hp => by
  have g : C.G p = none := by
    cases z : C.G p with
    | none => rfl
    | some u => have := o1.gr p u z; rw [hp] at this; cases this
  have e : Ex H1 (upd H1 p (.lst vs)) := Ex.new hp
  have s : Ex (hide M H1) (hide (p :: C.M0) (upd H1 p (.lst vs))) := fun a u z => by
    obtain ⟨q, z⟩ := hide_some z
    have ne : a ≠ p := ne_of_none z hp
    rw [hide_out (fun y => (List.mem_cons.mp y).elim ne fun y => q (o1.sub a y)), upd_ne ne]; exact z
  exact k p _ vs g (fun z => o1.alloc p (o1.sub p z) hp) (o1.gr.trans e) upd_same (dpAll_mono s _ _ (dpAll_of r1))⟩
/-- return x, x a list of one's own -/
theorem r_retNM {a : Addr} {es : List PyData} {j : Nat} (h : EvX C te M δ μ μ' (.m a)) (hj : μ'[j]? = some (a, .lst es)) (ha : a ∉ C.M0) (k : FinN C D es) : Run C (tRet te) D M δ μ := fun σ H o => h σ H o _ fun v H1 o1 x1 r => by
  have r' : v = .ref a := r
  obtain ⟨q0, q3, vs, q1, q2⟩ := o1.mem _ (List.mem_of_getElem? hj)
  rw [r']
  refine k a H1 vs q3 ha o1.gr q1 (dpAll_mono (hide_sub fun b hb => ?_) _ _ q2)
  rcases List.mem_cons.mp hb with z | z
  · rw [z]; exact q0
  · exact o1.sub b z
theorem r_asgN {n : Nat} {R : List PyData → List PyData → Prop} {ds es : List PyData} {E : XK} (h : EvA C tr M δ μ μ' (ds.map Ent.d)) (hp : R ds es) (k : ∀ p, p ∉ M → Nx C D (p :: M) (δ.set i (.m p)) ((p, .lst es) :: μ')) (hn : ds.length = n := by rfl) :
    Run C (tAsg (tCall (spN C.K n R) [] E tr) (gName i)) D M δ μ := fun σ H o => h σ H o _ fun vs H1 o1 x1 r1 => by
  rw [List.append_nil]
  refine ⟨by rw [(dpAll_of r1).length]; exact hn, M, ds, es, o1.alloc, dpAll_of r1, hp, fun p H2 ws hp0 e2 hl d2 => ?_⟩
  have x : Ex (hide M H1) (hide (p :: M) H2) := fun a u z => by
    obtain ⟨q, z⟩ := hide_some z
    have ne : a ≠ p := ne_of_none z hp0
    rw [hide_out (fun y => (List.mem_cons.mp y).elim ne q)]; exact e2 a u z
  have pM := o1.fresh hp0
  have ok2 : Ok C (p :: M) δ ((p, .lst es) :: μ') σ H2 := by
    refine ⟨o1.len, fun i y h1 h2 => let ⟨v, a, c⟩ := o1.slot i y h1 h2; ⟨v, a, c.mono x⟩, fun q hq => ?_, ?_, fun b hb => ?_, fun a ha => List.mem_cons_of_mem _ (o1.sub a ha), o1.gr.trans e2, o1.base.trans x⟩
    · rcases List.mem_cons.mp hq with z | hq
      · subst z
        refine ⟨List.mem_cons_self, ?_, ws, hl, d2⟩
        cases z : C.G p with
        | none => rfl
        | some u => have := o1.gr p u z; rw [hp0] at this; cases this
      · obtain ⟨b1, b2, b3⟩ := o1.mem q hq
        exact ⟨List.mem_cons_of_mem _ b1, b2, b3.mono x fun u z => e2 _ u z⟩
    · rw [List.map_cons, List.nodup_cons]
      refine ⟨fun z => ?_, o1.nd⟩
      obtain ⟨q, hq, z⟩ := List.mem_map.mp z
      have y : q.1 = p := z
      exact pM (by rw [← y]; exact (o1.mem q hq).1)
    · rcases List.mem_cons.mp hb with z | hb
      · rw [z, hl]; exact fun y => nomatch y
      · cases z : H1 b with
        | none => exact absurd z (o1.alloc b hb)
        | some u => rw [e2 b u z]; exact fun y => nomatch y
  exact k p pM _ _ (ok2.set i (e := .m p) rfl)
theorem q_asgN {n : Nat} {R : List PyData → List PyData → Prop} {ds es : List PyData} {E : XK} (h : EvA C tr M δ μ μ' (ds.map Ent.d)) (hp : R ds es) (k : ∀ p, p ∉ M → Run C t2 D (p :: M) (δ.set i (.m p)) ((p, .lst es) :: μ')) (hn : ds.length = n := by rfl) :
    Run C (tSeq (tAsg (tCall (spN C.K n R) [] E tr) (gName i)) t2) D M δ μ := r_asgN (D := { D with nx := t2 D }) h hp k hn
/-- x, y = [..], e -/
theorem q_parN {ds : List PyData} (h : EvA C tr M δ μ μ1 (ds.map Ent.d)) (hl : ds.length ≤ 100000) (hb : ∀ p, p ∉ M → EvX C tb (p :: M) δ ((p, .lst ds) :: μ1) ((p, .lst ds) :: μ1) e2)
    (k : ∀ p, p ∉ M → Run C t2 D (p :: M) ((δ.set i (.m p)).set j e2) ((p, .lst ds) :: μ1)) : Run C (tSeq (tPar i j (tCons (tLst tr) (tCons tb tNil))) t2) D M δ μ := fun σ H o =>
  h σ H o _ fun vs H1 o1 x1 r => ⟨by have := (dpAll_of r).length; rw [this]; exact sz_of hl, fun p hp => by
    have o2 := o1.new hp (mo := .lst ds) (ho := .lst vs) ⟨vs, upd_same, dpAll_mono (hide_new hp) _ _ (dpAll_of r)⟩
    have pM := o1.fresh hp
    refine hb p pM σ _ o2 _ fun v H3 o3 x3 r3 => ?_
    exact ⟨.ref p, v, rfl, k p pM _ _ ((o3.set i (e := .m p) rfl).set j r3)⟩⟩

/-! ### either a list or a tuple -/
theorem o_seqL {i : Int} {ds : List PyData} {d : PyData} {e1 : Ent} (r : Rdd μ e1 (.list ds)) (ha : atI ds i = some d) : OpX C (rIx C.K) M δ μ μ e1 (.d (.int i)) (.d d) := fun σ H x y o h1 h2 Q k => .inl (o_ixL r ha σ H x y o h1 h2 Q k)
theorem o_seqT {i : Int} {ds : List PyData} {d : PyData} (ha : atI ds i = some d) : OpX C (rIx C.K) M δ μ μ (.d (.tuple ds)) (.d (.int i)) (.d d) := fun σ H x y o h1 h2 Q k => .inr (.inl (o_ixT ha σ H x y o h1 h2 Q k))

/-! ### isinstance -/
def tyD : PyData → String
  | .none => "NoneType"
  | .bool _ => "bool"
  | .int _ => "int"
  | .str _ => "str"
  | .list _ => "list"
  | .tuple _ => "tuple"
  | .dict _ => "dict"
theorem ty_dp {K : PySem.W.Frag} {H : Hp} {v : V} {d : PyData} (h : Dp K H v d) : TyX K H v (.type (tyD d)) := by
  cases h with
  | non => exact .base .non
  | bl b => exact .base (.bl b)
  | int i => exact .base (.int i)
  | str x => exact .base (.str x)
  | lst hs ha =>
    rcases hs with (hs | ⟨o, hs⟩) | ⟨o, its, n, hk, hc, _⟩
    · exact .base (.lst hs)
    · exact .base (.frz hs)
    · exact .kList hk hc
  | tup hs ha =>
    rcases hs with (hs | ⟨o, hs⟩) | ⟨o, its, n, hk, hc, _⟩
    · exact .base (.tup hs)
    · exact .fTuple hs
    · exact .kTuple hk hc
theorem x_isi {d : PyData} {n : String} {b : Bool} (h : EvX C ta M δ μ μ' (.d d)) (hb : kitB (tyD d) n = some b) : EvX C (tCB (rIsi C.K) (tCons ta (tCons (tC (.ty n)) tNil))) M δ μ μ' (.d (.bool b)) := fun σ H o Q k =>
  h σ H o _ fun v H1 o1 x1 r => ⟨v, .ty n, .type (tyD d), .type n, b, rfl, .ty n, ty_dp (dp_mono hide_le _ _ r), kit_ty hb, k _ H1 o1 x1 (.bl b)⟩
end
end FD
/-! sorted(set(t)), t a tuple of texts: the set's table walked in whatever order -/
namespace FD
open PySem PySem.Spec L2 PyProof.Rows PySem.W PySem.Froz
/-! ### the set's table keeps rising, and its mark -/
theorem tailTx_ris {ep : Nat} {es : Array (Int × Value)} {t : SetTable} {wd : Bool} (r : Ris t.place.toList) : Ris (tailTx ep es t wd).2.2.place.toList := by
  unfold tailTx
  by_cases c : (!wd && t.tooFull) = true
  · rw [if_pos c]; exact relayAll_ris _ _ _
  · rw [if_neg c]; exact r
theorem tailTx_led {ep : Nat} {es : Array (Int × Value)} {t : SetTable} {wd : Bool} : (tailTx ep es t wd).2.2.led = t.led := by
  unfold tailTx
  by_cases c : (!wd && t.tooFull) = true
  · rw [if_pos c]; exact relayAll_led _ _ _
  · rw [if_neg c]
theorem addTx_ris {hs : Int} {v : Value} {T : SD} (r : Ris T.2.2.place.toList) : Ris (addTx hs v T).2.2.place.toList := by
  have r1 := layNew_ris T.2.2 T.1 hs v r
  unfold addTx
  refine tailTx_ris ?_
  split <;> exact r1
theorem addTx_led {hs : Int} {v : Value} {T : SD} : (addTx hs v T).2.2.led = T.2.2.led := by
  have r1 := layNew_led T.2.2 T.1 hs v
  unfold addTx
  refine tailTx_led.trans ?_
  split <;> exact r1
/-- the set of texts at a, its members l (each once) -/
def TxS (P : Program) (w : World) (h : Heap) (a : Addr) (l : List Str) : Prop := ∃ T : SD, h.get? a = some (sObj "set" T) ∧ TxOk P w T l ∧ l.Nodup ∧ Ris T.2.2.place.toList ∧ (w.params.followText "set-order" = true ∨ T.2.2.led = true)
section
variable {P : Program} {w : World} {A : Around} {E : Value → Shared → Prop} {s : Shared}
theorem TxS.at_ {h h' : Heap} {a : Addr} {l : List Str} (x : TxS P w h a l) (k : ∀ o, h.get? a = some o → h'.get? a = some o) : TxS P w h' a l := let ⟨T, h1, r⟩ := x; ⟨T, k _ h1, r⟩
theorem ts_add {a : Addr} {l : List Str} {z : Str} {u : Tok} {Q : Bool → Shared → Prop} (x : TxS P w s.heap a l) (hb : l.length + 1 < scanBound)
    (hQ : ∀ h' l' b, Heap.SameBut a s.heap h' → TxS P w h' a l' → (∀ y, y ∈ l' ↔ y ∈ l ∨ y = z) → l'.length ≤ l.length + 1 → Q b { s with heap := h' }) : wpAny (model P w) A (setAddHashed a (.str z u) (hashStr w z)) Q E s := by
  obtain ⟨T, ho, F, hn, hr, hl⟩ := x
  by_cases hz : z ∈ l
  · obtain ⟨es, ep, t⟩ := T
    have hd : (sObj "set" (es, ep, t)).data = .set es ep t := rfl
    have hsz : es.size = l.length := F.sz
    have isz : (strKind P w).is z (.str z u) = true := is_str z u
    obtain ⟨e, he, hp⟩ := (F.mem z).mp hz
    unfold setAddHashed setAddHashedIn
    refine wpAny_holding (wpAny_bind (wpAny_setState_of ho hd F.fit ?_))
    dsimp only
    rw [byScan_of (x := Value.str z u) rfl (show es.size < scanBound by omega) F.el]
    simp only [↓reduceIte]
    unfold setAddByScan
    refine wpAny_bind ?_
    refine wpAny_bind (wpAny_rule ?_)
    refine wpAny_bind (wpAny_setScan_of (knd := strKind P w) (k := z) isz ho hd F.fit F.el ?_)
    cases hf : List.findIdx? (fun e => (strKind P w).is z e.2) es.toList with
    | none =>
      have c := List.findIdx?_eq_none_iff.mp hf e he
      rw [hp] at c
      cases c
    | some j =>
      dsimp only
      exact wpAny_pure (wpAny_pure (hQ s.heap l false (Heap.SameBut.refl a s.heap) ⟨(es, ep, t), ho, F, hn, hr, hl⟩ (fun y => ⟨.inl, fun q => q.elim id fun e => e ▸ hz⟩) (Nat.le_succ _)))
  · refine add_x ho F hz hb (hQ _ (z :: l) true (Heap.SameBut.update s.heap a _) ⟨_, get_upd _ ho rfl, add_ok u F, List.nodup_cons.mpr ⟨hz, hn⟩, addTx_ris hr, ?_⟩ (fun y => ?_) (Nat.le_refl _))
    · rw [addTx_led]; exact hl
    · rw [List.mem_cons]; exact Or.comm
/-- the loop that fills the set -/
theorem ts_fill {I : Addr} {fp wr : List Addr} {G : Array GenState → Array GenState → Prop} {n : Nat} {Pv : Nat → Value → Prop} {St : Nat → Shared → Prop} {R : Result → Shared → Prop}
    (W : WalksS P w A.in1 I fp wr G n Pv St) (S : Addr) (hSf : S ∉ fp) (zs : List Str) (hn : n = zs.length) (hb : zs.length + 1 < scanBound) (hval : ∀ i v, Pv i v → ∃ k t, zs[i]? = some k ∧ v = .str k t) :
    ∀ (k i : Nat) (sh : Shared), n - i = k → i ≤ n → St i sh → (∃ l, l.length ≤ i ∧ TxS P w sh.heap S l ∧ ∀ y, y ∈ l ↔ y ∈ zs.take i) →
      (∀ s' l, Moved (S :: wr) G sh s' → l.length ≤ n → TxS P w s'.heap S l → (∀ y, y ∈ l ↔ y ∈ zs) → R (.ok (.ret .none)) s') →
      codeAny (model P w) A (.builtin "set.update.loop" ⟨[.ref S, .ref I], []⟩) R sh := by
  have nw : S ∉ wr := fun h => hSf (W.sub _ h)
  have up : ∀ b ∈ wr, b ∈ S :: wr := fun b hb => List.mem_cons_of_mem _ hb
  intro k
  induction k with
  | zero =>
    intro i sh ek hi st0 ⟨l, hl, hT, hm⟩ hR
    obtain rfl : i = n := by omega
    refine codeAny_builtin F.entry_set_update_loop ?_
    rw [Around.under_plainId F.plain_set_update_loop _]
    show wpAny _ A.in1 (pyNext (.ref I) >>= _) _ _ sh
    refine wpAny_bind (W.done sh _ _ st0 fun s' mv => ?_)
    show wpAny _ A.in1 (ret Value.none) _ _ s'
    have e : zs.take i = zs := List.take_of_length_le (by omega)
    rw [e] at hm
    exact wpAny_pure (hR s' l (mv.mono up) hl (hT.at_ fun o q => mv.heap S o nw q) hm)
  | succ k ih =>
    intro i sh ek hi st0 ⟨l, hl, hT, hm⟩ hR
    have lt0 : i < n := by omega
    refine codeAny_builtin F.entry_set_update_loop ?_
    rw [Around.under_plainId F.plain_set_update_loop _]
    show wpAny _ A.in1 (pyNext (.ref I) >>= _) _ _ sh
    refine wpAny_bind (W.item i sh _ _ lt0 st0 fun v s1 pv st1 mv => ?_)
    obtain ⟨z, t, hz, rfl⟩ := hval i v pv
    have hT1 : TxS P w s1.heap S l := hT.at_ fun o q => mv.heap S o nw q
    show wpAny _ A.in1 (holding [Value.str z t] (setAdd S (.str z t)) >>= _) _ _ s1
    refine wpAny_bind (wpAny_holding ?_)
    unfold setAdd
    refine wpAny_holding ?_
    refine wpAny_bind ((strKind P w).pyHash (k := z) (is_str z t) ?_)
    refine ts_add (s := { s1 with toks := s1.toks + 1 }) hT1 (by omega) fun g1 l1 b sb hT2 hm2 hl2 => ?_
    have hm3 : ∀ y, y ∈ l1 ↔ y ∈ zs.take (i + 1) := fun y => by
      rw [hm2, hm, List.take_add_one, hz]
      simp [List.mem_append]
    refine wpAny_pure ⟨plainId_quiet F.plain_set_update_loop _, ih (i + 1) _ (by omega) lt0 (W.frame _ s1 _ _ st1 (Nat.le_succ _) fun b hb o q => ?_) ⟨_, by omega, hT2, hm3⟩ fun s2 l2 mv2 hl3 hT3 hm4 => ?_⟩
    · rw [sb.2 b (fun q : b = S => hSf (by rw [← q]; exact hb))]; exact q
    · refine hR s2 l2 (Moved.trans W.gtrans ((mv.mono up).then_heap (Nat.le_succ _) fun b o hb q => ?_) mv2) hl3 hT3 hm4
      rw [sb.2 b (fun z : b = S => hb (by rw [z]; exact List.mem_cons_self))]; exact q
set_option maxHeartbeats 12000000 in
/-- set(t), t a tuple of texts -/
theorem call_setT {l : Addr} {items : Array Value} (zs : List Str) {Q : Value → Shared → Prop} (hh : A.handled = none) (hl : s.heap.IsTuple l items) (hit : StrsAre items.toList zs) (hb : zs.length + 1 < scanBound)
    (h : ∀ (h' : Heap) (tk : Nat) (ks : List Str), TxS P w h' s.heap.objs.size ks → (∀ y, y ∈ ks ↔ y ∈ zs) → ks.length ≤ zs.length → (∀ b o, s.heap.get? b = some o → h'.get? b = some o) → Q (.ref s.heap.objs.size) { s with heap := h', toks := tk }) :
    wpAny (model P w) A (call (.type "set") [.ref l]) Q E s := by
  have eN : items.size = zs.length := by rw [← StrsAre.length hit, Array.length_toList]
  obtain ⟨c, tl, hmro⟩ := F.called_set.mro
  have hmade := F.called_set.made
  have hsub := F.called_set.sub
  refine wpAny_call (codeAny_of_tree ?_)
  show wpAny _ _ (callAny (.type "set") _) _ _ _
  refine wpAny_pure ⟨Code.quiet_builtin _ (by decide +kernel), codeAny_builtin F.entry_type_call ?_⟩
  rw [Around.under_plain (weight_type_call_type "set" [.ref l] []) rfl]
  have h1 := F.called_set.notType
  have h2 := F.called_set.canCreate
  have hct := F.typeCall_set_1 (.ref l)
  repeat (any_goals (first | assumption | wp_step))
  generalize eS : ({ cls := .type "set", dict := none, data := .set #[] 0 (.fresh 0 0 (!w.params.followText "set-order")) } : Obj) = o0
  refine codeAny_mono (code_set_led1 (.ref l) (E := E) (Q₁ := fun obj t => obj = .ref s.heap.objs.size ∧ t = { s with heap := s.heap.push o0 }) ⟨rfl, by rw [eS]⟩) fun r t hr => ?_
  cases r with
  | error e => exact hr
  | ok fl =>
    cases fl with
    | ret obj =>
      obtain ⟨rfl, rfl⟩ := hr
      have hS : (s.heap.push o0).get? s.heap.objs.size = some o0 := Heap.get?_push_size _ (by rw [← eS]; rfl)
      have hT : Shared.TypeIs { s with heap := s.heap.push o0 } (.ref s.heap.objs.size) "set" := ⟨_, hS, by rw [← eS]⟩
      have hli := F.called_set.init.lookup
      have hbi := F.called_set.init.bind (.ref s.heap.objs.size)
      repeat (any_goals (first | assumption | wp_step))
      refine codeAny_mono (codeAny_call_builtin (R := wants (fun r s₂ => r = .none ∧ ∃ h' tk ks, s₂ = { s with heap := h', toks := tk } ∧ TxS P w h' s.heap.objs.size ks ∧ (∀ y, y ∈ ks ↔ y ∈ zs) ∧ ks.length ≤ zs.length ∧
          (∀ b o, s.heap.get? b = some o → h'.get? b = some o)) E) F.called_set.init.plain F.entry_set_init (check_set_init_1 hT ?_)) fun r₂ s₂ hr₂ => ?_
      · obtain ⟨ol, hol, hcl, nl, hdl⟩ := hl
        obtain ⟨ocls, odict, odata, oslots⟩ := ol
        simp only at hcl hdl
        subst hcl; subst hdl
        have hol' : (s.heap.push o0).get? l = some { cls := .type "tuple", dict := odict, data := .seq items nl, slots := oslots } := Heap.get?_push_of_some _ hol
        have hsls := F.sub_tuple_set
        have hslf := F.sub_tuple_frozenset
        have hne : (Value.type "tuple" == Value.type "dict") = false := by decide
        have tl1 : (s.heap.push o0).IsTuple l items := ⟨_, hol', rfl, nl, rfl⟩
        subst eS
        unfold Builtin.«set.__init__» noKeywords Builtin.Frozenset.updateFrom
        generalize hPI : pyIter = PI
        wp_walk
        subst hPI
        refine wpAny_pyIter_tuple tl1 ?_
        refine wpAny_bind (wpAny_runValue ?_)
        have ltl : l < s.heap.objs.size := Heap.lt_size hol
        have hh3 : A.in1.in1.in1.handled = none := by simp [hh]
        have eP : ∀ o : Obj, (s.heap.push o).objs.size = s.heap.objs.size + 1 := fun o => Heap.size_push ..
        have neI : l ≠ (s.heap.push { cls := .type "set", dict := none, data := .set #[] 0 (.fresh 0 0 (!w.params.followText "set-order")) }).objs.size := by rw [eP]; exact Nat.ne_of_lt (Nat.lt_succ_of_lt ltl)
        have outS : s.heap.objs.size ∉ [(s.heap.push { cls := .type "set", dict := none, data := .set #[] 0 (.fresh 0 0 (!w.params.followText "set-order")) }).objs.size, l] := by
          rw [eP]; simp only [List.mem_cons, List.not_mem_nil, or_false, not_or]
          exact ⟨Nat.ne_of_lt (Nat.lt_succ_self _), Nat.ne_of_gt ltl⟩
        have hval : ∀ (i : Nat) (v : Value), items[i]? = some v → ∃ k t, zs[i]? = some k ∧ v = .str k t := fun i v hv => by
          have hi : i < zs.length := by rw [← eN]; exact (Array.getElem?_eq_some_iff.mp hv).1
          obtain ⟨t, e⟩ := SS.strs_at hit i v (by rw [Array.getElem?_toList]; exact hv)
          refine ⟨zs[i], t, List.getElem?_eq_getElem hi, ?_⟩
          rw [e, List.getD_eq_getElem?_getD, List.getElem?_eq_getElem hi] <;> rfl
        refine ts_fill ((Walks.tuple hh3 _ l neI items).toS) s.heap.objs.size outS zs eN hb hval (items.size - 0) 0 _ (by omega) (Nat.zero_le _)
          ⟨⟨_, Heap.get?_push_size _ rfl, rfl, rfl⟩, (tl1.push _)⟩ ?_ ?_
        · refine ⟨[], Nat.le_refl 0, ⟨(#[], 0, .fresh 0 0 (!w.params.followText "set-order")), ?_, TxOk.nil (by rfl), List.nodup_nil, List.Pairwise.nil, ?_⟩, fun y => by simp⟩
          · refine (Heap.get?_push_of_some _ hS).trans ?_
            rfl
          · show _ ∨ (!w.params.followText "set-order") = true
            cases w.params.followText "set-order"
            · exact .inr rfl
            · exact .inl rfl
        · intro s' ks mv hl' hT' hm'
          obtain ⟨h', gg, d', tk', os'⟩ := s'
          have eg : gg = s.gens := mv.gens
          have ed : d' = s.drawn := mv.drawn
          have eo : os' = s.os := mv.os
          subst eg; subst ed; subst eo
          show wpAny _ _ _ _ _ _
          refine wpAny_pure ?_
          show wpAny _ _ (ret Value.none) _ _ _
          refine wpAny_pure ⟨rfl, h', tk', ks, rfl, hT', hm', by omega, fun b o e => ?_⟩
          have b0 : b < s.heap.objs.size := Heap.lt_size e
          have b1 : b ≠ s.heap.objs.size := Nat.ne_of_lt b0
          have b2 : b ≠ (s.heap.push { cls := .type "set", dict := none, data := .set #[] 0 (.fresh 0 0 (!w.params.followText "set-order")) }).objs.size := by rw [eP]; exact Nat.ne_of_lt (Nat.lt_succ_of_lt b0)
          exact mv.heap b o (by simp only [List.mem_cons, List.not_mem_nil, or_false, not_or]; exact ⟨b1, b2⟩) (Heap.get?_push_of_some _ (Heap.get?_push_of_some _ e))
      · cases r₂ with
        | error e => exact hr₂
        | ok fl₂ =>
          cases fl₂ with
          | ret r =>
            obtain ⟨rfl, h', tk, ks, rfl, a1, a2, a3, a4⟩ := hr₂
            repeat (any_goals (first | assumption | wp_step))
            exact h _ _ _ a1 a2 a3 a4
          | _ => exact hr₂.elim
    | _ => exact hr.elim
end
end FD
/-! texts in order; sorted(set(t)) -/
namespace FD
open PySem PySem.Spec L2 PyProof.Rows PySem.W PySem.Froz
def leS (a b : Str) : Bool := !ltCps b.cps.toList a.cps.toList
theorem leS_iff {a b : Str} : leS a b = true ↔ a.cps.toList ≤ b.cps.toList := by
  unfold leS
  rw [ltCps_eq]
  simp
theorem leS_trans {a b c : Str} (h : leS a b = true) (k : leS b c = true) : leS a c = true := leS_iff.mpr (List.le_trans (leS_iff.mp h) (leS_iff.mp k))
theorem leS_total (a b : Str) : (leS a b || leS b a) = true := by
  rw [Bool.or_eq_true, leS_iff, leS_iff]
  exact List.le_total _ _
theorem leS_anti {a b : Str} (h : leS a b = true) (k : leS b a = true) : a = b := by
  have e : a.cps.toList = b.cps.toList := List.le_antisymm (leS_iff.mp h) (leS_iff.mp k)
  obtain ⟨x⟩ := a
  obtain ⟨y⟩ := b
  have e : x.toList = y.toList := e
  rw [Array.toList_inj.mp e]
def Asc (l : List Str) : Prop := l.Pairwise fun a b => leS a b = true
theorem asc_rising : ∀ (l : List Str) (p : Str), risingS p l = true → Asc (p :: l)
  | [], p, _ => List.pairwise_singleton _ _
  | x :: r, p, h => by
    have h' : (!ltCps x.cps.toList p.cps.toList && risingS x r) = true := h
    rw [Bool.and_eq_true] at h'
    have ih := asc_rising r x h'.2
    have px : leS p x = true := h'.1
    refine List.pairwise_cons.mpr ⟨fun y hy => ?_, ih⟩
    rcases List.mem_cons.mp hy with e | hy
    · rw [e]; exact px
    · exact leS_trans px (List.rel_of_pairwise_cons ih hy)
theorem asc_of : ∀ {l : List Str}, sortedS l = true → Asc l
  | [], _ => List.Pairwise.nil
  | x :: r, h => asc_rising r x h
theorem asc_uniq : ∀ {l m : List Str}, Asc l → Asc m → l.Perm m → l = m
  | [], m, _, _, p => (List.Perm.nil_eq p)
  | x :: l, [], _, _, p => by have := p.length_eq; simp at this
  | x :: l, y :: m, h, k, p => by
    have e : x = y := by
      have h1 : x ∈ y :: m := p.mem_iff.mp List.mem_cons_self
      have h2 : y ∈ x :: l := p.mem_iff.mpr List.mem_cons_self
      rcases List.mem_cons.mp h1 with e | h1
      · exact e
      · rcases List.mem_cons.mp h2 with e | h2
        · exact e.symm
        · exact leS_anti (List.rel_of_pairwise_cons h h2) (List.rel_of_pairwise_cons k h1)
    subst e
    rw [asc_uniq (List.pairwise_cons.mp h).2 (List.pairwise_cons.mp k).2 (List.Perm.cons_inv p)]
def sortT (l : List Str) : List Str := l.mergeSort fun a b => leS a b
theorem sortT_perm (l : List Str) : (sortT l).Perm l := List.mergeSort_perm l _
theorem sortT_asc (l : List Str) : Asc (sortT l) := List.pairwise_mergeSort (le := fun a b => leS a b) (fun a b c h k => leS_trans h k) (fun a b => leS_total a b) l
theorem sortT_eq {l m : List Str} (h : sortedS m = true) (p : m.Perm l) : m = sortT l := asc_uniq (asc_of h) (sortT_asc l) (p.trans (sortT_perm l).symm)
theorem sortT_mem {l : List Str} {x : Str} : x ∈ sortT l ↔ x ∈ l := (sortT_perm l).mem_iff
theorem sortT_len (l : List Str) : (sortT l).length = l.length := (sortT_perm l).length_eq
theorem sortT_congr {l m : List Str} (p : l.Perm m) : sortT l = sortT m := asc_uniq (sortT_asc l) (sortT_asc m) ((sortT_perm l).trans (p.trans (sortT_perm m).symm))
/-- each once -/
def onceT : List Str → List Str
  | [] => []
  | x :: r => if x ∈ onceT r then onceT r else x :: onceT r
theorem onceT_mem : ∀ {l : List Str} {x : Str}, x ∈ onceT l ↔ x ∈ l
  | [], x => by simp [onceT]
  | y :: r, x => by
    have ih := onceT_mem (l := r) (x := x)
    unfold onceT
    split
    · rename_i h
      rw [ih, List.mem_cons]
      exact ⟨.inr, fun z => z.elim (fun e => by rw [e]; exact onceT_mem.mp h) id⟩
    · rw [List.mem_cons, List.mem_cons, ih]
theorem onceT_nodup : ∀ l : List Str, (onceT l).Nodup
  | [] => List.nodup_nil
  | y :: r => by
    unfold onceT
    split
    · exact onceT_nodup r
    · rename_i h
      exact List.nodup_cons.mpr ⟨h, onceT_nodup r⟩
theorem perm_of_nodup : ∀ {l m : List Str}, l.Nodup → m.Nodup → (∀ x, x ∈ l ↔ x ∈ m) → l.Perm m
  | [], m, _, _, h => by
    cases m with
    | nil => exact List.Perm.refl _
    | cons y r => exact absurd ((h y).mpr List.mem_cons_self) (by simp)
  | x :: l, m, hl, hm, h => by
    have hx : x ∈ m := (h x).mp List.mem_cons_self
    obtain ⟨hl1, hl2⟩ := List.nodup_cons.mp hl
    refine List.Perm.trans (List.Perm.cons x (perm_of_nodup hl2 (hm.erase x) fun y => ?_)) (List.perm_cons_erase hx).symm
    rw [hm.mem_erase_iff, ← h y, List.mem_cons]
    exact ⟨fun z => ⟨fun e => hl1 (by rw [← e]; exact z), .inr z⟩, fun z => z.2.elim (fun e => absurd e z.1) id⟩
/-- sorted(set(l)) -/
def setT (l : List Str) : List Str := sortT (onceT l)
theorem setT_mem {l : List Str} {x : Str} : x ∈ setT l ↔ x ∈ l := sortT_mem.trans onceT_mem
theorem onceT_len : ∀ l : List Str, (onceT l).length ≤ l.length
  | [] => Nat.le_refl _
  | y :: r => by
    have ih := onceT_len r
    unfold onceT
    split
    · exact Nat.le_succ_of_le ih
    · exact Nat.succ_le_succ ih
theorem setT_len (l : List Str) : (setT l).length ≤ l.length := by
  unfold setT
  rw [sortT_len]
  exact onceT_len l
theorem setT_nodup (l : List Str) : (setT l).Nodup := (sortT_perm _).nodup_iff.mpr (onceT_nodup l)
/-! ### out of the set's table -/
def textOf (v : Value) : Str := match v with
  | .str k _ => k
  | _ => Str.empty
theorem perm_of_len : ∀ {l xs : List Str}, l.Nodup → (∀ x ∈ l, x ∈ xs) → xs.length = l.length → xs.Perm l
  | [], xs, _, _, h => by rw [List.eq_nil_of_length_eq_zero h]
  | x :: l, xs, hl, hs, h => by
    have hx := hs x List.mem_cons_self
    obtain ⟨h1, h2⟩ := List.nodup_cons.mp hl
    refine (List.perm_cons_erase hx).trans (List.Perm.cons x (perm_of_len h2 (fun y hy => ?_) ?_))
    · exact (List.mem_erase_of_ne (fun (e : y = x) => h1 (by rw [← e]; exact hy))).mpr (hs y (List.mem_cons_of_mem _ hy))
    · rw [List.length_erase_of_mem hx, h]; simp
section
variable {P : Program} {w : World} {A : Around} {E : Value → Shared → Prop} {s : Shared}
theorem elem_text {es : List (Int × Value)} (g : ElemsOf (PySem.strKind P w) es) {e : Int × Value} (he : e ∈ es) : ∃ k t, e.2 = .str k t := by
  obtain ⟨⟨k, hk, _⟩, _⟩ := g e he
  have hk : Value.isStrOf k e.2 = true := hk
  cases h : e.2 with
  | str y t => exact ⟨y, t, rfl⟩
  | _ => rw [h] at hk; simp [Value.isStrOf] at hk
theorem tx_perm {T : SD} {l : List Str} (F : TxOk P w T l) (hn : l.Nodup) : (T.1.toList.map fun e => textOf e.2).Perm l := by
  refine perm_of_len hn (fun x hx => ?_) ?_
  · obtain ⟨e, he, q⟩ := (F.mem x).mp hx
    refine List.mem_map.mpr ⟨e, he, ?_⟩
    obtain ⟨k, t, ek⟩ := elem_text F.el he
    have q : Value.isStrOf x e.2 = true := q
    rw [ek] at q ⊢
    simp [Value.isStrOf] at q
    exact q
  · rw [List.length_map, Array.length_toList]; exact F.sz
theorem texts_are : ∀ (l : List Value), (∀ v ∈ l, ∃ k t, v = Value.str k t) → StrsAre l (l.map textOf)
  | [], _ => .nil
  | v :: l, h => by
    obtain ⟨k, t, rfl⟩ := h v List.mem_cons_self
    exact .cons k t (texts_are l fun u hu => h u (List.mem_cons_of_mem _ hu))
theorem sorted_setT {a : Addr} {l : List Str} {Q : Value → Shared → Prop} (x : TxS P w s.heap a l) (hh : A.handled = none) (hb : l.length < scanBound)
    (hQ : ∀ s' p (out : Array Value) (c : Nat), (∀ b o, s.heap.get? b = some o → s'.heap.get? b = some o) → s'.gens = s.gens → s'.os = s.os → s.heap.objs.size ≤ p →
      s'.heap.get? p = some (seqObj "list" out c) → StrsAre out.toList (sortT l) → Q (.ref p) s') :
    wpAny (model P w) A (call (.builtin "sorted") [.ref a]) Q E s := by
  obtain ⟨T, ho, F, hn, hr, hl⟩ := x
  have hsz : T.1.size = l.length := F.sz
  refine Calls.call_function_entry kind_sorted plain_sorted entry_sorted (args_sorted1 _) ?_
  unfold Builtin.«sorted»
  refine wpAny_bind (m := checkCount "sorted" 1 1 _) (wpAny_pure ?_)
  refine wpAny_bind (collect_set (A := A.in1) hh ⟨_, ho, rfl, rfl⟩ F.fit (by omega) hr hl fun s1 vs k1 hz g1 o1 pm => ?_)
  have hvl : vs.length = l.length := by rw [pm.length_eq, List.length_map, Array.length_toList]; exact hsz
  have isT : ∀ v ∈ vs, ∃ k t, v = Value.str k t := fun v hv => by
    obtain ⟨e, he, q⟩ := List.mem_map.mp (pm.mem_iff.mp hv)
    obtain ⟨k, t, ek⟩ := elem_text F.el he
    exact ⟨k, t, by rw [← q, ek]⟩
  have hS := texts_are vs isT
  have pk : (vs.map textOf).Perm l := by
    have q := pm.map textOf
    rw [List.map_map] at q
    exact q.trans (tx_perm F hn)
  have hL : vs.length ≤ sizeLine := by rw [hvl, sizeLine_eq]; have : scanBound = 4096 := rfl; omega
  refine wpAny_bind (wpAny_newList ?_ hL)
  have hoL : (s1.heap.push (seqObj "list" vs.toArray 0)).get? s1.heap.objs.size = some (seqObj "list" vs.toArray 0) := Heap.get?_push_size _ rfl
  refine wpAny_bind (wpAny_holding (wpAny_call_entry slot_list_sort ⟨_, hoL, rfl⟩ entry_list_sort (list_sort_treeKAny strKind_oneLt hoL hS.keysOf (fun v₁ v₂ rest e => keyKind_strs (by rw [← e]; exact hS)) hL fun st' hp hs => ⟨_, rfl, ?_⟩) (args_list_sort _)))
  obtain ⟨ys, a1, a2, a3⟩ := sorted_out_str hS hp hs
  obtain ⟨c, hc⟩ := sortedHeap_at (vs := vs) (out := (arrOf st').map (·.2)) hoL
  refine wpAny_pure ⟨_, rfl, hQ _ s1.heap.objs.size _ c (fun b u e => ?_) g1 o1 hz hc ?_⟩
  · have q := k1 b u e
    have hlt := Heap.lt_size q
    show (sortedHeap (s1.heap.push (seqObj "list" vs.toArray 0)) s1.heap.objs.size vs _).get? b = some u
    rw [sortedHeap_old (Nat.ne_of_lt hlt) (by rw [size_push']; exact Nat.lt_succ_of_lt hlt)]
    exact Heap.get?_push_of_some _ q
  · rw [← sortT_eq a3 (a2.trans pk)]; exact a1
end
/-- sorted(set(t)) -/
def tSSet (K : PySem.W.Frag) (ta : TE) : TE := fun σ H Q => ta σ H fun x H1 => ∃ (l : Addr) (xs : List Str), x = .ref l ∧ SqT K H1 l (xs.map V.str) ∧ xs.length ≤ 4000 ∧ ∀ p, H1 p = none → Q (.ref p) (upd H1 p (.lst ((setT xs).map V.str)))
section
variable {X : Cx}
theorem pe_sset {a : Expr} {ta : TE} {p p2 q pos : Pos} (hc : X.calm = true) (hg : Gl X "sorted") (hm : X.mg "sorted" = none) (hg2 : Gl X "set") (hm2 : X.mg "set" = none) (ha : PE X a ta)
    (na : starEach [a] X.env = (false, eval a X.env) :: starEach [] X.env := by rfl) : PE X (.Call (.Name "sorted" p) [.Call (.Name "set" p2) [a] [] q] [] pos) (tSSet X.K ta) := by
  refine ⟨fun pins s σ H Q I h => ?_⟩
  refine Call_ (ld_blt I hg hm (show _ = some (.builtin "sorted") by decide +kernel) ?_)
  refine PyProof.Rows.callWith_builtin1 (PyProof.Rows.args_cons ?_ rfl) rfl rfl
  refine Call_ (ld_blt I hg2 hm2 boot_set ?_)
  refine PyProof.Rows.callWith_type1 (PyProof.Rows.args_cons (thn (ha.run pins s σ H _ I h) fun v s1 ⟨x, H1, I1, r1, q1⟩ => PyProof.Rows.args_nil ?_) na) na rfl
  obtain ⟨l, xs, rfl, hq, h1, q1⟩ := q1
  cases r1
  obtain ⟨its, r, pl, hz⟩ := I1.tuple hq
  have hb : scanBound = 4096 := rfl
  refine call_setT xs (I1.ok.hd hc) pl (by simpa using strsAre_of r) (by omega) fun h' tk ks hT hm' hl hk => ?_
  refine PyProof.Rows.args_nil ?_
  have I2 : Inv X pins σ H1 { s1 with heap := h', toks := tk } := I1.kept fun b o e => hk b o e
  have nk : ks.Nodup := let ⟨_, _, _, n, _⟩ := hT; n
  have ek : sortT ks = setT xs := sortT_congr (perm_of_nodup nk (onceT_nodup xs) fun y => (hm' y).trans onceT_mem.symm)
  refine sorted_setT hT (I2.ok.hd hc) (by omega) fun s2 p2 out c k2 g2 o2 hp hob hS => ?_
  rw [ek] at hS
  have hlen : ((setT xs).map V.str).length ≤ sizeLine := by rw [List.length_map, sizeLine_eq]; have := setT_len xs; omega
  have hn : H1 p2 = none := I2.hok.fresh hp
  have J : Inv X pins σ (upd H1 p2 (.lst ((setT xs).map V.str))) { ({ s1 with heap := h', toks := tk } : Shared) with heap := s2.heap, gens := s2.gens, drawn := s2.drawn, toks := s2.toks } :=
    I2.call (ch := []) (Un.laid k2 hp hn) (I2.hok.laid k2 hp ⟨hlen, out.toList, c, vals_of_strs hS, hob⟩) (by rw [g2]; exact I2.bare) (fun _ z => nomatch z)
  have e : s2 = { s1 with heap := s2.heap, gens := s2.gens, drawn := s2.drawn, toks := s2.toks } := by
    obtain ⟨x1, x2, x3, x4, x5⟩ := s2
    have o2 : x5 = s1.os := o2
    subst o2
    rfl
  rw [e]
  exact ⟨.ref p2, _, J, rfl, q1 p2 hn⟩
end
end FD
/-! dicts of one's own (keys: texts), promises over objects, dicts walked under a lock -/
namespace FD
open PySem L2 Evl
abbrev Dct := List (Str × PyData)
def kd (l : Dct) : List (Key × PyData) := l.map fun p => (Sum.inr p.1, p.2)
def valD (l : Dct) (k : Str) : Option PyData := (l.find? fun p => decide (p.1 = k)).map (·.2)
theorem valD_cons (p : Str × PyData) (r : Dct) (k : Str) : valD (p :: r) k = if p.1 = k then some p.2 else valD r k := by
  unfold valD
  rw [List.find?_cons]
  by_cases h : p.1 = k
  · rw [decide_eq_true h, if_pos h]; rfl
  · rw [decide_eq_false h, if_neg h]
theorem valD_at {l : Dct} {p : Str × PyData} (hn : (l.map (·.1)).Nodup) (h : p ∈ l) : valD l p.1 = some p.2 := by
  induction l with
  | nil => cases h
  | cons q r ih =>
    rw [valD_cons]
    rw [List.map_cons, List.nodup_cons] at hn
    rcases List.mem_cons.mp h with e | h
    · rw [← e, if_pos rfl]
    · rw [if_neg (fun e => hn.1 (by rw [e]; exact List.mem_map.mpr ⟨p, h, rfl⟩))]
      exact ih hn.2 h
theorem pairs_app {α β : Type} {F : α → β → Prop} {as as' : List α} {bs bs' : List β} (h : Paired F as bs) (k : Paired F as' bs') : Paired F (as ++ as') (bs ++ bs') := by
  induction h with
  | nil => exact k
  | cons r _ ih => exact .cons r ih
abbrev DcOk (K : PySem.W.Frag) (Hh : Hp) (ws : List (Key × V)) (kvs : List (Key × PyData)) : Prop := Paired (fun (p : Key × V) (q : Key × PyData) => p.1 = q.1 ∧ DvOk K Hh p.2 q.2) ws kvs
section
variable {K : PySem.W.Frag} {Hh : Hp}
theorem dc_val : ∀ {l : Dct} {ws : List (Key × V)} {k : Str} {d : PyData}, DcOk K Hh ws (kd l) → valD l k = some d → ∃ v, valV ws (.inr k) = some v ∧ DvOk K Hh v d
  | [], ws, k, d, _, h => by cases h
  | p :: r, ws, k, d, c, h => by
    cases c with
    | @cons w _ ws _ h1 c =>
      obtain ⟨e1, e2⟩ := h1
      have e1 : w.1 = Sum.inr p.1 := e1
      rw [valD_cons] at h
      by_cases e : p.1 = k
      · rw [if_pos e] at h
        cases h
        refine ⟨w.2, ?_, e2⟩
        rw [valV_pos (by rw [e1, e])]
      · rw [if_neg e] at h
        obtain ⟨v, q1, q2⟩ := dc_val c h
        exact ⟨v, by rw [valV_neg (fun z => e (Sum.inr.inj (e1.symm.trans z)))]; exact q1, q2⟩
theorem dc_keys : ∀ {l : Dct} {ws : List (Key × V)}, DcOk K Hh ws (kd l) → ws.map (·.1) = (l.map (·.1)).map Sum.inr
  | [], _, .nil => rfl
  | p :: r, _, .cons h c => by rw [List.map_cons, dc_keys (l := r) c, h.1]; rfl
theorem dc_get : ∀ {l : Dct} {ws : List (Key × V)} {i : Nat} {k : Key} {v : V}, DcOk K Hh ws (kd l) → ws[i]? = some (k, v) → ∃ p, l[i]? = some p ∧ k = Sum.inr p.1
  | [], _, i, k, v, .nil, h => by cases h
  | p :: r, _, 0, k, v, .cons h c, e => by
    simp at e
    subst e
    exact ⟨p, rfl, h.1⟩
  | p :: r, _, i + 1, k, v, .cons h c, e => by
    obtain ⟨q, e1, e2⟩ := dc_get (l := r) (i := i) c (by simpa using e)
    exact ⟨q, by simpa using e1, e2⟩
theorem dc_len {l : Dct} {ws : List (Key × V)} (c : DcOk K Hh ws (kd l)) : ws.length = l.length := by
  have := congrArg List.length (dc_keys c)
  rw [List.length_map, List.length_map, List.length_map] at this
  exact this
theorem dc_snoc {l : Dct} {ws : List (Key × V)} {k : Str} {v : V} {d : PyData} (c : DcOk K Hh ws (kd l)) (hk : k ∉ l.map (·.1)) (h : DvOk K Hh v d) : DcOk K Hh (putK ws (.inr k) v) (kd (l ++ [(k, d)])) := by
  have e : (ws.any fun kv => decide (kv.1 = (Sum.inr k : Key))) = false := by
    rw [List.any_eq_false]
    intro p hp
    rw [decide_eq_true_eq]
    intro z
    have : p.1 ∈ ws.map (·.1) := List.mem_map.mpr ⟨p, hp, rfl⟩
    rw [dc_keys c, z] at this
    obtain ⟨y, hy, q⟩ := List.mem_map.mp this
    cases q
    exact hk hy
  unfold putK
  rw [e, if_neg Bool.false_ne_true]
  unfold kd
  rw [List.map_append]
  exact pairs_app c (.cons ⟨rfl, h⟩ .nil)
end
def IsDct (mo : MO) (l : Dct) : Prop := mo = .dK (kd l) ∨ ∃ od ws, mo = .fz od ws (kd l)
theorem dct_rd {K : PySem.W.Frag} {Hh H : Hp} {a : Addr} {mo : MO} {l : Dct} (h : MOok K Hh H a mo) (hd : IsDct mo l) : ∃ ws, Rd H a (.dK ws) ∧ DcOk K Hh ws (kd l) := by
  rcases hd with rfl | ⟨od, ws, rfl⟩
  · obtain ⟨ws, e, c⟩ := h
    exact ⟨ws, .inl e, c⟩
  · obtain ⟨e, c⟩ := h
    exact ⟨ws, .inr ⟨od, e⟩, c⟩
theorem DpAll.strs {K : PySem.W.Frag} {H : Hp} : ∀ {vs : List V} {ns : List Str}, DpAll K H vs (ns.map PyData.str) → vs = ns.map V.str
  | vs, [], h => by cases h; rfl
  | vs, n :: ns, h => by
    cases h with
    | cons h1 h2 =>
      cases h1
      rw [DpAll.strs h2]
      rfl
theorem dp_strs {K : PySem.W.Frag} {H : Hp} : ∀ ns : List Str, DpAll K H (ns.map V.str) (ns.map PyData.str)
  | [] => .nil
  | n :: ns => .cons (.str n) (dp_strs ns)
section
variable {C : Cfg} {M : List Addr} {δ : List Ent} {μ μ1 μ2 μ3 : Mem} {ta tb te td ty : TE} {a b : Addr} {mo : MO} {l : Dct} {k : Str} {d : PyData} {e : Ent} {tr : TA} {D : Ends} {t2 : TS} {i j : Nat}
/-! ### what is read of a dict -/
theorem x_dget (hx : EvX C td M δ μ μ1 (.m a)) (hk : EvX C ty M δ μ1 μ2 (.d (.str k))) (hm : (a, mo) ∈ μ2) (hd : IsDct mo l) (hv : valD l k = some d) : EvX C (tDGet td ty) M δ μ μ2 (.d d) := fun σ H o Q kk =>
  hx σ H o _ fun x H1 o1 x1 r1 => hk σ H1 o1 _ fun y H2 o2 x2 r2 => by
    have e1 : x = .ref a := r1
    have e2 : y = .str k := Dp.str_of r2
    obtain ⟨ws, rd, dc⟩ := dct_rd (o2.mem _ hm).2.2 hd
    obtain ⟨v, e3, e4⟩ := dc_val dc hv
    exact ⟨a, v, e1, .inl ⟨ws, .inr k, rd, e2, e3.symm⟩, kk v H2 o2 (x1.trans x2) e4.1⟩
theorem x_dgetP {row : List Str} (hx : EvX C td M δ μ μ1 (.m a)) (hk : EvX C ty M δ μ1 μ2 (.d (.str k))) (hm : (a, mo) ∈ μ2) (hd : IsDct mo l) (hv : valD l k = some (.tuple (row.map .str))) : EvX C (tDGet td ty) M δ μ μ2 (.p row) := fun σ H o Q kk =>
  hx σ H o _ fun x H1 o1 x1 r1 => hk σ H1 o1 _ fun y H2 o2 x2 r2 => by
    have e1 : x = .ref a := r1
    have e2 : y = .str k := Dp.str_of r2
    obtain ⟨ws, rd, dc⟩ := dct_rd (o2.mem _ hm).2.2 hd
    obtain ⟨v, e3, e4⟩ := dc_val dc hv
    exact ⟨a, v, e1, .inl ⟨ws, .inr k, rd, e2, e3.symm⟩, kk v H2 o2 (x1.trans x2) (e4.2 row rfl)⟩
abbrev rSortedDc : List V → Hp → VK → Prop := fun xs H Q => ∃ (a : Addr) (kvs : List (Key × V)) (ks : List Str), xs = [.ref a] ∧ Rd H a (.dK kvs) ∧ kvs.map (·.1) = ks.map Sum.inr ∧ ks.length < 64 ∧ ∀ ys p, ys.Perm ks → PyProof.Rows.sortedS ys = true → H p = none → Q (.ref p) (upd H p (.lst (ys.map V.str)))
theorem c_sortedD (hm : (a, mo) ∈ μ) (hd : IsDct mo l) (hl : l.length < 64) : CallX C rSortedDc M δ μ μ [.m a] (.d (.list ((sortT (l.map (·.1))).map .str))) := fun σ H vs o h Q kk => by
  obtain ⟨v, rfl, q⟩ := p1 h
  have e1 : v = .ref a := q
  obtain ⟨ws, rd, dc⟩ := dct_rd (o.mem _ hm).2.2 hd
  refine ⟨a, ws, l.map (·.1), by rw [e1], rd, dc_keys dc, by rw [List.length_map]; exact hl, fun ys p hp hs hn => ?_⟩
  rw [sortT_eq hs hp]
  obtain ⟨o', x', d'⟩ := o.lst hn (dp_strs (K := C.K) (H := hide M H) (sortT (l.map (·.1))))
  exact kk _ _ o' x' d'
abbrev rListDc : List V → Hp → VK → Prop := fun xs H Q => ∃ (a : Addr) (kvs : List (Key × V)), xs = [.ref a] ∧ Rd H a (.dK kvs) ∧ ∀ p, H p = none → Q (.ref p) (upd H p (.lst (kvs.map fun kv => kV kv.1)))
theorem c_listD (hm : (a, mo) ∈ μ) (hd : IsDct mo l) : CallX C rListDc M δ μ μ [.m a] (.d (.list ((l.map (·.1)).map .str))) := fun σ H vs o h Q kk => by
  obtain ⟨v, rfl, q⟩ := p1 h
  have e1 : v = .ref a := q
  obtain ⟨ws, rd, dc⟩ := dct_rd (o.mem _ hm).2.2 hd
  refine ⟨a, ws, by rw [e1], rd, fun p hn => ?_⟩
  have e : (ws.map fun kv => kV kv.1) = (l.map (·.1)).map V.str := by
    have q := congrArg (List.map kV) (dc_keys dc)
    rw [List.map_map, List.map_map] at q
    exact q
  rw [e]
  obtain ⟨o', x', d'⟩ := o.lst hn (dp_strs (K := C.K) (H := hide M H) (l.map (·.1)))
  exact kk _ _ o' x' d'
theorem c_sortedS {zs : List Str} (r : Rdd μ e (.list (zs.map .str))) (hl : zs.length < 64) : CallX C (rSortedS C.K) M δ μ μ [e] (.d (.list ((sortT zs).map .str))) := fun σ H vs o h Q kk => by
  obtain ⟨v, rfl, q⟩ := p1 h
  obtain ⟨a, ws, q1, q2, q3⟩ := r.lst o q
  refine ⟨a, zs, by rw [q1], (DpAll.strs q3) ▸ q2, hl, fun ys p hp hs hn => ?_⟩
  rw [sortT_eq hs hp]
  obtain ⟨o', x', d'⟩ := o.lst hn (dp_strs (K := C.K) (H := hide M H) (sortT zs))
  exact kk _ _ o' x' d'
theorem x_sset {zs : List Str} (h : EvX C ta M δ μ μ1 (.d (.tuple (zs.map .str)))) (hl : zs.length ≤ 4000) : EvX C (tSSet C.K ta) M δ μ μ1 (.d (.list ((setT zs).map .str))) := fun σ H o Q kk =>
  h σ H o _ fun v H1 o1 x1 r1 => by
    obtain ⟨p, vs, e1, e2, e3⟩ := Dp.tup_of r1
    refine ⟨p, zs, e1, (DpAll.strs e3) ▸ ex_t hide_le e2, hl, fun q hn => ?_⟩
    obtain ⟨o', x', d'⟩ := o1.lst hn (dp_strs (K := C.K) (H := hide M H1) (setT zs))
    exact kk _ _ o' (x1.trans x') d'
/-! ### what is written -/
theorem row_dv {K : PySem.W.Frag} {Hh : Hp} {v : V} {row : List Str} (h : PRow K Hh row v) : DvOk K Hh v (.tuple (row.map .str)) := by
  obtain ⟨a, e, q, _⟩ := id h
  refine ⟨by rw [e]; exact .tup q (dp_strs row), fun k e2 => ?_⟩
  have e3 : k = row := by
    have e2 : row.map PyData.str = k.map PyData.str := PyData.tuple.inj e2
    have := congrArg (List.map fun d => match d with | PyData.str s => s | _ => "") e2
    rw [List.map_map, List.map_map] at this
    have id1 : ∀ l : List Str, l.map ((fun d => match d with | PyData.str s => s | _ => "") ∘ PyData.str) = l := fun l => by
      induction l with
      | nil => rfl
      | cons a l ih => rw [List.map_cons, ih]; rfl
    rw [id1, id1] at this
    exact this.symm
  rw [e3]
  exact h
theorem r_newD (k : ∀ p, p ∉ M → Nx C D (p :: M) (δ.set i (.m p)) ((p, .dK (kd [])) :: μ)) : Run C (tAsg tDNewK (gName i)) D M δ μ := fun σ H o p hp => by
  have o2 := o.new hp (mo := .dK (kd [])) (ho := .dK []) ⟨[], upd_same, .nil⟩
  exact k p (o.fresh hp) _ _ (o2.set i (e := .m p) rfl)
theorem q_newD (k : ∀ p, p ∉ M → Run C t2 D (p :: M) (δ.set i (.m p)) ((p, .dK (kd [])) :: μ)) : Run C (tSeq (tAsg tDNewK (gName i)) t2) D M δ μ := r_newD (D := { D with nx := t2 D }) k
/-- x[k] = e, k new -/
theorem r_dput (hnt : ∀ k : List Str, d ≠ .tuple (k.map .str)) (h : EvX C te M δ μ μ1 (.d d)) (hx : EvX C ta M δ μ1 μ2 (.m a)) (hi : EvX C tb M δ μ2 μ3 (.d (.str k))) (hj : μ3[j]? = some (a, .dK (kd l))) (hk : k ∉ l.map (·.1)) (hl : l.length < 1000) (kk : Nx C D M δ (μ3.set j (a, .dK (kd (l ++ [(k, d)]))))) :
    Run C (tAsg te (gSub ta tb rSetD)) D M δ μ := fun σ H o => h σ H o _ fun v H1 o1 x1 r1 => hx σ H1 o1 _ fun w H2 o2 x2 r2 => hi σ H2 o2 _ fun z H3 o3 x3 r3 => by
  have e1 : w = .ref a := r2
  have e2 : z = .str k := Dp.str_of r3
  obtain ⟨_, _, ws, q3, q4⟩ := o3.mem _ (List.mem_of_getElem? hj)
  show ∃ a' H', w = .ref a' ∧ DPut H3 a' z v H' ∧ D.nx σ H'
  refine ⟨a, _, e1, .inl ⟨ws, .inr k, q3, e2, sz_lt (by rw [dc_len q4]; omega), rfl⟩, ?_⟩
  exact kk _ _ (o3.write hj ⟨_, upd_same, dc_snoc q4 hk ⟨EntOk.mono (e := .d d) (x2.trans x3) r1, fun k e => absurd e (hnt k)⟩⟩)
theorem r_dputP {row : List Str} (h : EvX C te M δ μ μ1 (.p row)) (hx : EvX C ta M δ μ1 μ2 (.m a)) (hi : EvX C tb M δ μ2 μ3 (.d (.str k))) (hj : μ3[j]? = some (a, .dK (kd l))) (hk : k ∉ l.map (·.1)) (hl : l.length < 1000) (kk : Nx C D M δ (μ3.set j (a, .dK (kd (l ++ [(k, .tuple (row.map .str))]))))) :
    Run C (tAsg te (gSub ta tb rSetD)) D M δ μ := fun σ H o => h σ H o _ fun v H1 o1 x1 r1 => hx σ H1 o1 _ fun w H2 o2 x2 r2 => hi σ H2 o2 _ fun z H3 o3 x3 r3 => by
  have e1 : w = .ref a := r2
  have e2 : z = .str k := Dp.str_of r3
  obtain ⟨_, _, ws, q3, q4⟩ := o3.mem _ (List.mem_of_getElem? hj)
  show ∃ a' H', w = .ref a' ∧ DPut H3 a' z v H' ∧ D.nx σ H'
  refine ⟨a, _, e1, .inl ⟨ws, .inr k, q3, e2, sz_lt (by rw [dc_len q4]; omega), rfl⟩, ?_⟩
  exact kk _ _ (o3.write hj ⟨_, upd_same, dc_snoc q4 hk (row_dv (PRow.mono (x2.trans x3) r1))⟩)
/-- x = dict(y) -/
abbrev rDictDc : List V → Hp → VK → Prop := fun xs H Q => ∃ (a : Addr) (kvs : List (Key × V)), xs = [.ref a] ∧ Rd H a (.dK kvs) ∧ ∀ p, H p = none → Q (.ref p) (upd H p (.dK kvs))
theorem q_copyD (h : EvA C tr M δ μ μ1 [.m a]) (hm : (a, mo) ∈ μ1) (hd : IsDct mo l) (k : ∀ p, p ∉ M → Run C t2 D (p :: M) (δ.set i (.m p)) ((p, .dK (kd l)) :: μ1)) : Run C (tSeq (tAsg (tCB rDictDc tr) (gName i)) t2) D M δ μ := fun σ H o => h σ H o _ fun vs H1 o1 x1 r1 => by
  obtain ⟨v, rfl, q⟩ := p1 r1
  have e1 : v = .ref a := q
  obtain ⟨ws, rd, dc⟩ := dct_rd (o1.mem _ hm).2.2 hd
  refine ⟨a, ws, by rw [e1], rd, fun p hp => ?_⟩
  have o2 := o1.new hp (mo := .dK (kd l)) (ho := .dK ws) ⟨ws, upd_same, Paired.mapP dc fun p q z => ⟨z.1, z.2.mono (hide_new hp)⟩⟩
  exact k p (o1.fresh hp) _ _ (o2.set i (e := .m p) rfl)
theorem q_clear (hx : EvX C ta M δ μ μ1 (.m a)) (hj : μ1[j]? = some (a, .dK (kd l))) (k : Run C t2 D M δ (μ1.set j (a, .dK (kd [])))) : Run C (tSeq (tDrop (tBM0 C.K "dict" rDClear ta)) t2) D M δ μ := fun σ H o => hx σ H o _ fun v H1 o1 x1 r1 => by
  have e1 : v = .ref a := r1
  subst e1
  obtain ⟨_, _, ws, q3, q4⟩ := o1.mem _ (List.mem_of_getElem? hj)
  exact ⟨.inr (.inr (.inl ⟨rfl, .inl ⟨_, q3⟩⟩)), a, ws, rfl, rfl, q3, k _ _ (o1.write hj ⟨_, upd_same, .nil⟩)⟩
end
/-! ### two dicts compared -/
def rNeDK (K : PySem.W.Frag) : R2 := fun x y H Q => ∃ (a b : Addr) (ks ls : List (Key × V)) (l : Dct), x = .ref a ∧ y = .ref b ∧ H a = some (.dK ks) ∧ H b = some (.dK ls) ∧ DcOk K H ks (kd l) ∧ DcOk K H ls (kd l) ∧ (l.map (·.1)).Nodup ∧ (∀ p ∈ l, SeqAt.shaped p.2 = true) ∧ Q (.bl false) H
section
variable {X : Cx}
theorem dk_hits {pins : List (Addr × Obj)} {σ : L2.St} {H : Hp} {s : Shared} (I : Inv X pins σ H s) (hu : X.A.in1.units + 64 < cLine) {kb : List (Key × Value)} :
    ∀ {l : Dct} {ks : List (Key × V)} {ka : List (Key × Value)}, DcOk X.K H ks (kd l) → KV ks ka → (∀ p ∈ l, SeqAt.shaped p.2 = true) → (∀ p ∈ l, ∃ y as, valueAt kb (Sum.inr p.1) = some y ∧ PySem.Reads s.heap y p.2 as) → PySem.W.KeqHits X.A.in1 s kb ka true
  | [], _, _, .nil, .nil, _, _ => .nil
  | p :: r, _, _, .cons h c, .cons (b := q) g t, hs, hb => by
    obtain ⟨y, bs, e1, e2⟩ := hb p List.mem_cons_self
    obtain ⟨as, e3⟩ := Dp.reads I _ _ _ h.2.1 g.2
    have hp := hs p List.mem_cons_self
    have e3 : PySem.Reads s.heap q.2 p.2 as := e3
    have E := PySem.W.keq_at (A := X.A) e3 e2 hp hp hu
    have : PyData.eqv p.2 p.2 = true := SeqAt.eqv_refl _ (SeqAt.canLay_of_shaped hp)
    have E : SeqAt.EqAt X.A.in1 s q.2 y true := by rw [← this]; exact E
    have k1 : q.1 = (Sum.inr p.1 : Key) := g.1.symm.trans h.1
    obtain ⟨q1, q2⟩ := q
    have k1 : q1 = (Sum.inr p.1 : Key) := k1
    subst k1
    exact .hit (e := true) (b := true) e1 E (dk_hits I hu (l := r) c t (fun p hp => hs p (List.mem_cons_of_mem _ hp)) fun p hp => hb p (List.mem_cons_of_mem _ hp))
theorem op_neDK (hu : X.A.units + 65 < cLine) : OpR X (compareOp .NotEq) (rNeDK X.K) := by
  intro pins s σ H x y v u Q I rx ry h
  obtain ⟨a, b, ks, ls, l, rfl, rfl, ea, eb, ca, cb, hn, hs, q⟩ := h
  obtain rfl : v = Value.ref a := rx
  obtain rfl : u = Value.ref b := ry
  obtain ⟨_, ya, va, ra, da⟩ := (show ObjOk X.prog X.w H s.heap a (.dK ks) from I.hok a _ ea)
  obtain ⟨_, yb, vb, rb, db⟩ := (show ObjOk X.prog X.w H s.heap b (.dK ls) from I.hok b _ eb)
  have hl : va.length = vb.length := by rw [← ra.length, ← rb.length, dc_len ca, dc_len cb]
  have hu1 : X.A.in1.units + 64 < cLine := by show X.A.units + 1 + 64 < cLine; omega
  refine PySem.W.keq_ne (knd := mixKind X.prog X.w) (r := true) ya yb da db (by omega) (fun _ => dk_hits I hu1 ca ra hs fun p hp => ?_) (fin_bl I q (by simp [hl]))
  obtain ⟨v, e1, e2⟩ := dc_val cb (valD_at hn hp)
  have r := rb.val (Sum.inr p.1)
  rw [e1] at r
  cases z : valueAt vb (Sum.inr p.1) with
  | none => rw [z] at r; exact (show False from r).elim
  | some y =>
    rw [z] at r
    obtain ⟨as, e3⟩ := Dp.reads I _ _ _ e2.1 r
    exact ⟨y, as, rfl, e3⟩
end
end FD
/-! promises over objects of one's own; dicts walked under a lock -/
namespace FD
open PySem L2 Evl
abbrev ad (μ : Mem) : List Addr := μ.map (·.1)
def spE (K : PySem.W.Frag) (n : Nat) (R : List Ent → Mem → PyData → Mem → Prop) : Sp := fun vs H Q _ => vs.length = n ∧ ∃ M es μ d μ', (∀ a ∈ M, H a ≠ none) ∧ Paired (EntOk K (hide M H)) es vs ∧ (∀ p ∈ μ, p.1 ∈ M ∧ MOok K (hide M H) H p.1 p.2) ∧ (ad μ).Nodup ∧ ad μ' = ad μ ∧ R es μ d μ' ∧
  ∀ v H', Ex (hide (ad μ) H) H' → (∀ p ∈ μ', MOok K (hide M H') H' p.1 p.2) → Dp K (hide M H') v d → Q v H'
def spEN (K : PySem.W.Frag) (n : Nat) (R : List Ent → Mem → MO → Mem → Prop) : Sp := fun vs H Q _ => vs.length = n ∧ ∃ M es μ mo μ', (∀ a ∈ M, H a ≠ none) ∧ Paired (EntOk K (hide M H)) es vs ∧ (∀ p ∈ μ, p.1 ∈ M ∧ MOok K (hide M H) H p.1 p.2) ∧ (ad μ).Nodup ∧ ad μ' = ad μ ∧ R es μ mo μ' ∧
  ∀ p H', H p = none → Ex (hide (ad μ) H) H' → MOok K (hide (p :: M) H') H' p mo → (∀ q ∈ μ', MOok K (hide (p :: M) H') H' q.1 q.2) → Q (.ref p) H'
def FinE (C : Cfg) (D : Ends) (d : PyData) (μ' : Mem) : Prop := ∀ v M' H, Ex C.G H → (∀ a ∈ C.M0, a ∈ M') → (∀ p ∈ μ', MOok C.K (hide M' H) H p.1 p.2) → Dp C.K (hide M' H) v d → D.rt v H
def FinEN (C : Cfg) (D : Ends) (mo : MO) (μ' : Mem) : Prop := ∀ p M' H, C.G p = none → p ∉ C.M0 → Ex C.G H → (∀ a ∈ C.M0, a ∈ M') → p ∈ M' → MOok C.K (hide M' H) H p mo → (∀ q ∈ μ', MOok C.K (hide M' H) H q.1 q.2) → D.rt (.ref p) H
theorem ok_startE {K : PySem.W.Frag} {H : Hp} {N : List Str} {M : List Addr} {vs : List V} {es : List Ent} {μ : Mem} (al : ∀ a ∈ M, H a ≠ none) (h : Paired (EntOk K (hide M H)) es vs) (hm : ∀ p ∈ μ, p.1 ∈ M ∧ MOok K (hide M H) H p.1 p.2) (nd : (ad μ).Nodup) (hN : vs.length ≤ N.length) :
    Ok ⟨K, M, hide (ad μ) H, hide M H⟩ M (startE N.length es.length es) μ (L2.start N vs) H where
  len := start_len (paired_len h) hN
  slot := fun i e h1 h2 => start_slot h i e h1 h2
  mem := fun p hp => ⟨(hm p hp).1, hide_in (List.mem_map.mpr ⟨p, hp, rfl⟩), (hm p hp).2⟩
  nd := nd
  alloc := al
  sub := fun _ ha => ha
  gr := hide_le
  base := Ex.refl _
section
variable {P : Program} {w : World} {K : PySem.W.Frag} {mg : Str → Option Value} {base : Heap}
theorem def_E {x qual : Str} {st : Stmt} {f : Addr} {fd : FuncData} {N ps : List Str} {k n : Nat} {R : List Ent → Mem → PyData → Mem → Prop} (F : Fun K x qual st f fd) (S : FnScope N ps (defScope st)) (hN : ps.length ≤ N.length) (hp : ps.length = n)
    (h : ∀ (cdv : Value) (A : Around) (outer : List Env) (s : Shared) (H : Hp) (E : XK), Room k (A.deeper (PyProof.Rows.envOfC qual (defScope st) s.heap.objs.size f cdv)) →
      ∃ t, PSs (cxOf CX0 P w K mg base N qual (defScope st) f cdv A outer s H E).nox (defBody st) t ∧
        ∀ (M : List Addr) (G B : Hp) (es : List Ent) (μ : Mem) (d : PyData) (μ' : Mem), R es μ d μ' → ∀ D : Ends, FinE ⟨K, M, G, B⟩ D d μ' → Run ⟨K, M, G, B⟩ t D M (startE N.length es.length es) μ) :
    FnOk P w K mg base CX0 (k + 1) f fd ps (spE K n R) := by
  refine F.ok S (fun vs H Q E hs => hs.1.trans hp.symm) fun cdv A outer s H vs Q E hr hs => ?_
  obtain ⟨hn, M, es, μ, d, μ', al, he, hm, nd, had, hR, kk⟩ := hs
  obtain ⟨t, ht, run⟩ := h cdv A outer s H E hr
  refine ⟨t, ht, run M (hide (ad μ) H) (hide M H) es μ d μ' hR _ (fun v M' H' e s m r => kk v H' e (fun p hp => (m p hp).mono (hide_sub s) fun _ q => q) (dp_mono (hide_sub s) _ _ r)) _ _ (ok_startE al he hm nd (by rw [hn, ← hp]; exact hN))⟩
theorem def_EN {x qual : Str} {st : Stmt} {f : Addr} {fd : FuncData} {N ps : List Str} {k n : Nat} {R : List Ent → Mem → MO → Mem → Prop} (F : Fun K x qual st f fd) (S : FnScope N ps (defScope st)) (hN : ps.length ≤ N.length) (hp : ps.length = n)
    (h : ∀ (cdv : Value) (A : Around) (outer : List Env) (s : Shared) (H : Hp) (E : XK), Room k (A.deeper (PyProof.Rows.envOfC qual (defScope st) s.heap.objs.size f cdv)) →
      ∃ t, PSs (cxOf CX0 P w K mg base N qual (defScope st) f cdv A outer s H E).nox (defBody st) t ∧
        ∀ (M : List Addr) (G B : Hp) (es : List Ent) (μ : Mem) (mo : MO) (μ' : Mem), R es μ mo μ' → ∀ D : Ends, FinEN ⟨K, M, G, B⟩ D mo μ' → Run ⟨K, M, G, B⟩ t D M (startE N.length es.length es) μ) :
    FnOk P w K mg base CX0 (k + 1) f fd ps (spEN K n R) := by
  refine F.ok S (fun vs H Q E hs => hs.1.trans hp.symm) fun cdv A outer s H vs Q E hr hs => ?_
  obtain ⟨hn, M, es, μ, mo, μ', al, he, hm, nd, had, hR, kk⟩ := hs
  obtain ⟨t, ht, run⟩ := h cdv A outer s H E hr
  refine ⟨t, ht, run M (hide (ad μ) H) (hide M H) es μ mo μ' hR _ (fun p M' H' g pM e s pm m mm => ?_) _ _ (ok_startE al he hm nd (by rw [hn, ← hp]; exact hN))⟩
  have sub : ∀ a ∈ p :: M, a ∈ M' := fun a ha => (List.mem_cons.mp ha).elim (fun z => by rw [z]; exact pm) (s a)
  have hp0 : H p = none := by
    have : hide (ad μ) H p = none := g
    rw [hide_out (fun z => ?_)] at this
    · exact this
    · obtain ⟨q, hq, e⟩ := List.mem_map.mp z
      exact pM (by have := (hm q hq).1; rw [e] at this; exact this)
  exact kk p H' hp0 e (m.mono (hide_sub sub) fun _ q => q) (fun q hq => (mm q hq).mono (hide_sub sub) fun _ q => q)
end
section
variable {C : Cfg} {M : List Addr} {δ : List Ent} {μ μ0 μ0' μ1 μ2 μ' : Mem} {σ : L2.St} {H1 H2 : Hp} {tr : TA} {te ta : TE} {D : Ends} {t2 : TS} {i j : Nat} {a : Addr} {mo : MO} {es : List Ent} {d : PyData} {n : Nat}
/-- the objects that a call was handed, as it leaves them -/
structure Swap (μ0 μ0' μ1 μ2 : Mem) : Prop where
  sub : ∀ p ∈ μ0, p ∈ μ1
  ad0 : ad μ0' = ad μ0
  ad1 : ad μ2 = ad μ1
  new : ∀ p ∈ μ2, p ∈ μ0' ∨ (p ∈ μ1 ∧ p.1 ∉ ad μ0)
theorem after_E (o : Ok C M δ μ1 σ H1) (w : Swap μ0 μ0' μ1 μ2) (e : Ex (hide (ad μ0) H1) H2) (hm : ∀ p ∈ μ0', MOok C.K (hide M H2) H2 p.1 p.2) : Ok C M δ μ2 σ H2 ∧ Ex (hide M H1) (hide M H2) := by
  have inM : ∀ b ∈ ad μ0, b ∈ M ∧ C.G b = none := fun b hb => by
    obtain ⟨q, hq, z⟩ := List.mem_map.mp hb
    have := o.mem q (w.sub q hq)
    rw [z] at this
    exact ⟨this.1, this.2.1⟩
  have kp : ∀ b u, b ∉ ad μ0 → H1 b = some u → H2 b = some u := fun b u ne q => e b u (by rw [hide_out ne]; exact q)
  have x : Ex (hide M H1) (hide M H2) := fun b u z => by
    obtain ⟨q, z⟩ := hide_some z
    rw [hide_out q]
    exact kp b u (fun y => q (inM b y).1) z
  refine ⟨⟨o.len, fun i y h1 h2 => let ⟨v, a, c⟩ := o.slot i y h1 h2; ⟨v, a, c.mono x⟩, fun p hp => ?_, by rw [show μ2.map (·.1) = μ1.map (·.1) from w.ad1]; exact o.nd, fun b hb => ?_, o.sub, fun b u z => ?_, o.base.trans x⟩, x⟩
  · rcases w.new p hp with h0 | ⟨h1, h2⟩
    · have : p.1 ∈ ad μ0 := by rw [← w.ad0]; exact List.mem_map.mpr ⟨p, h0, rfl⟩
      exact ⟨(inM _ this).1, (inM _ this).2, hm p h0⟩
    · obtain ⟨b1, b2, b3⟩ := o.mem p h1
      exact ⟨b1, b2, b3.mono x fun u z => kp _ u h2 z⟩
  · by_cases q : b ∈ ad μ0
    · rw [← w.ad0] at q
      obtain ⟨p, hp, z⟩ := List.mem_map.mp q
      have := (hm p hp).there
      rw [z] at this; exact this
    · cases z : H1 b with
      | none => exact absurd z (o.alloc b hb)
      | some u => rw [kp b u q z]; exact fun z => nomatch z
  · exact kp b u (fun q => by have := (inM b q).2; rw [z] at this; cases this) (o.gr b u z)
theorem x_callE {R : List Ent → Mem → PyData → Mem → Prop} {E : XK} (h : EvA C tr M δ μ μ1 es) (w : Swap μ0 μ0' μ1 μ2) (nd : (ad μ0).Nodup) (hR : R es μ0 d μ0') (hn : es.length = n := by rfl) : EvX C (tCall (spE C.K n R) [] E tr) M δ μ μ2 (.d d) := fun σ H o Q k =>
  h σ H o _ fun vs H1 o1 x1 r1 => by
    rw [List.append_nil]
    refine ⟨by rw [← paired_len r1]; exact hn, M, es, μ0, d, μ0', o1.alloc, r1, fun p hp => let q := o1.mem p (w.sub p hp); ⟨q.1, q.2.2⟩, nd, w.ad0, hR, fun v H2 e2 m2 d2 => ?_⟩
    obtain ⟨o2, x2⟩ := after_E o1 w e2 m2
    exact k v H2 o2 (x1.trans x2) d2
theorem swap_same (hj : (a, mo) ∈ μ) (nd : (ad μ).Nodup) : Swap [(a, mo)] [(a, mo)] μ μ where
  sub := fun p hp => by rw [List.mem_singleton.mp hp]; exact hj
  ad0 := rfl
  ad1 := rfl
  new := fun p hp => by
    by_cases e : p.1 = a
    · left
      obtain ⟨i, hi⟩ := List.getElem?_of_mem hp
      obtain ⟨k, hk⟩ := List.getElem?_of_mem hj
      obtain ⟨x, y⟩ := p
      have e : x = a := e
      subst e
      have := nodup_fst nd hi hk
      subst this
      rw [hi] at hk
      rw [Option.some.inj hk]; simp
    · exact .inr ⟨hp, by simpa using e⟩
/-- one object, read alone -/
theorem x_callE1 {R : List Ent → Mem → PyData → Mem → Prop} {E : XK} (h : EvA C tr M δ μ μ1 es) (hj : (a, mo) ∈ μ1) (hR : R es [(a, mo)] d [(a, mo)]) (hn : es.length = n := by rfl) : EvX C (tCall (spE C.K n R) [] E tr) M δ μ μ1 (.d d) := fun σ H o Q k =>
  h σ H o _ fun vs H1 o1 x1 r1 => by
    rw [List.append_nil]
    refine ⟨by rw [← paired_len r1]; exact hn, M, es, [(a, mo)], d, [(a, mo)], o1.alloc, r1, fun p hp => ?_, by simp, rfl, hR, fun v H2 e2 m2 d2 => ?_⟩
    · rw [List.mem_singleton.mp hp]
      let q := o1.mem _ hj; exact ⟨q.1, q.2.2⟩
    obtain ⟨o2, x2⟩ := after_E o1 (swap_same hj o1.nd) e2 m2
    exact k v H2 o2 (x1.trans x2) d2
theorem ok_newE {G : Mem} (o : Ok C M δ μ1 σ H1) {p : Addr} (w : Swap μ0 μ0' μ1 μ2) (hp : H1 p = none) (e : Ex (hide (ad μ0) H1) H2) (hmo : MOok C.K (hide (p :: M) H2) H2 p mo) (hm : ∀ q ∈ μ0', MOok C.K (hide (p :: M) H2) H2 q.1 q.2) : p ∉ M ∧ Ok C (p :: M) δ ((p, mo) :: μ2) σ H2 := by
  have pM := o.fresh hp
  have inM : ∀ b ∈ ad μ0, b ∈ M ∧ C.G b = none := fun b hb => by
    obtain ⟨q, hq, z⟩ := List.mem_map.mp hb
    have := o.mem q (w.sub q hq)
    rw [z] at this
    exact ⟨this.1, this.2.1⟩
  have kp : ∀ b u, b ∉ ad μ0 → H1 b = some u → H2 b = some u := fun b u ne q => e b u (by rw [hide_out ne]; exact q)
  have x : Ex (hide M H1) (hide (p :: M) H2) := fun b u z => by
    obtain ⟨q, z⟩ := hide_some z
    have ne : b ≠ p := ne_of_none z hp
    rw [hide_out (fun y => (List.mem_cons.mp y).elim ne q)]
    exact kp b u (fun y => q (inM b y).1) z
  refine ⟨pM, ⟨o.len, fun i y h1 h2 => let ⟨v, a, c⟩ := o.slot i y h1 h2; ⟨v, a, c.mono x⟩, fun q hq => ?_, ?_, fun b hb => ?_, fun b hb => List.mem_cons_of_mem _ (o.sub b hb), fun b u z => ?_, o.base.trans x⟩⟩
  · rcases List.mem_cons.mp hq with z | hq
    · subst z
      refine ⟨List.mem_cons_self, ?_, hmo⟩
      cases z : C.G p with
      | none => rfl
      | some u => have := o.gr p u z; rw [hp] at this; cases this
    · rcases w.new q hq with h0 | ⟨h1, h2⟩
      · have : q.1 ∈ ad μ0 := by rw [← w.ad0]; exact List.mem_map.mpr ⟨q, h0, rfl⟩
        exact ⟨List.mem_cons_of_mem _ (inM _ this).1, (inM _ this).2, hm q h0⟩
      · obtain ⟨b1, b2, b3⟩ := o.mem q h1
        exact ⟨List.mem_cons_of_mem _ b1, b2, b3.mono x fun u z => kp _ u h2 z⟩
  · rw [List.map_cons, List.nodup_cons, show μ2.map (·.1) = μ1.map (·.1) from w.ad1]
    refine ⟨fun z => ?_, o.nd⟩
    obtain ⟨q, hq, z⟩ := List.mem_map.mp z
    have := (o.mem q hq).1
    rw [z] at this
    exact pM this
  · rcases List.mem_cons.mp hb with z | hb
    · rw [z]; exact hmo.there
    · by_cases q : b ∈ ad μ0
      · rw [← w.ad0] at q
        obtain ⟨r, hr, z⟩ := List.mem_map.mp q
        have := (hm r hr).there
        rw [z] at this; exact this
      · cases z : H1 b with
        | none => exact absurd z (o.alloc b hb)
        | some u => rw [kp b u q z]; exact fun z => nomatch z
  · exact kp b u (fun q => by have := (inM b q).2; rw [z] at this; cases this) (o.gr b u z)
/-- x = f(..), a new object handed back -/
theorem r_asgEN {R : List Ent → Mem → MO → Mem → Prop} {E : XK} (h : EvA C tr M δ μ μ1 es) (w : Swap μ0 μ0' μ1 μ2) (nd : (ad μ0).Nodup) (hR : R es μ0 mo μ0') (k : ∀ p, p ∉ M → Nx C D (p :: M) (δ.set i (.m p)) ((p, mo) :: μ2)) (hn : es.length = n := by rfl) :
    Run C (tAsg (tCall (spEN C.K n R) [] E tr) (gName i)) D M δ μ := fun σ H o => h σ H o _ fun vs H1 o1 x1 r1 => by
  rw [List.append_nil]
  refine ⟨by rw [← paired_len r1]; exact hn, M, es, μ0, mo, μ0', o1.alloc, r1, fun p hp => let q := o1.mem p (w.sub p hp); ⟨q.1, q.2.2⟩, nd, w.ad0, hR, fun p H2 hp e2 m1 m2 => ?_⟩
  obtain ⟨pM, o2⟩ := ok_newE (G := []) o1 w hp e2 m1 m2
  exact k p pM _ _ (o2.set i (e := .m p) rfl)
theorem q_asgEN {R : List Ent → Mem → MO → Mem → Prop} {E : XK} (h : EvA C tr M δ μ μ1 es) (w : Swap μ0 μ0' μ1 μ2) (nd : (ad μ0).Nodup) (hR : R es μ0 mo μ0') (k : ∀ p, p ∉ M → Run C t2 D (p :: M) (δ.set i (.m p)) ((p, mo) :: μ2)) (hn : es.length = n := by rfl) :
    Run C (tSeq (tAsg (tCall (spEN C.K n R) [] E tr) (gName i)) t2) D M δ μ := r_asgEN (D := { D with nx := t2 D }) h w nd hR k hn
/-- f(..) an operand, its new object held for the moment alone: the caller's rule -/
theorem r_retE (h : EvX C te M δ μ μ1 (.d d)) (hs : ∀ p ∈ μ', p ∈ μ1) (k : FinE C D d μ') : Run C (tRet te) D M δ μ := fun σ H o => h σ H o _ fun v H1 o1 x1 r =>
  k v M H1 o1.gr o1.sub (fun p hp => (o1.mem p (hs p hp)).2.2) r
theorem r_retEN (h : EvX C te M δ μ μ1 (.m a)) (hj : (a, mo) ∈ μ1) (ha : a ∉ C.M0) (hs : ∀ p ∈ μ', p ∈ μ1) (k : FinEN C D mo μ') : Run C (tRet te) D M δ μ := fun σ H o => h σ H o _ fun v H1 o1 x1 r => by
  have r' : v = .ref a := r
  rw [r']
  obtain ⟨q0, q1, q2⟩ := o1.mem _ hj
  exact k a M H1 q1 ha o1.gr o1.sub q0 q2 fun p hp => (o1.mem p (hs p hp)).2.2
/-! ### a dict walked under a lock -/
def lkE (D : Ends) (a : Addr) (u : HO) (od : Obj) : Ends := ⟨fun σ' H' => H' a = some (.frz od u) ∧ D.nx σ' (upd H' a u), fun v H' => H' a = some (.frz od u) ∧ D.rt v (upd H' a u), fun σ' H' => H' a = some (.frz od u) ∧ D.bk σ' (upd H' a u), fun σ' H' => H' a = some (.frz od u) ∧ D.ct σ' (upd H' a u)⟩
variable {kvs : List (Key × PyData)} {ws : List (Key × V)} {od : Obj} {t : TS}
theorem set_back {l : Mem} {x y : Addr × MO} (h : l[j]? = some x) : (l.set j y).set j x = l := by
  rw [List.set_set]
  refine List.ext_getElem? fun k => ?_
  by_cases q : j = k
  · subst q
    rw [List.getElem?_set_self (List.getElem?_eq_some_iff.mp h).1, h]
  · rw [List.getElem?_set_ne q]
theorem ok_lock (o : Ok C M δ μ σ H1) (hj : μ[j]? = some (a, .dK kvs)) : ∃ ws, H1 a = some (.dK ws) ∧ ∀ od, Ok C M δ (μ.set j (a, .fz od ws kvs)) σ (upd H1 a (.frz od (.dK ws))) := by
  obtain ⟨_, _, ws, e, c⟩ := o.mem _ (List.mem_of_getElem? hj)
  exact ⟨ws, e, fun od => o.write hj ⟨upd_same, c⟩⟩
theorem ok_unlock (hj : μ[j]? = some (a, .dK kvs)) (o : Ok C M δ (μ.set j (a, .fz od ws kvs)) σ H1) : H1 a = some (.frz od (.dK ws)) ∧ a ∈ M ∧ Ok C M δ μ σ (upd H1 a (.dK ws)) := by
  have hj' : (μ.set j (a, MO.fz od ws kvs))[j]? = some (a, .fz od ws kvs) := List.getElem?_set_self (List.getElem?_eq_some_iff.mp hj).1
  obtain ⟨q0, _, e, c⟩ := o.mem _ (List.mem_of_getElem? hj')
  have := o.write hj' (mo' := .dK kvs) (ho := .dK ws) ⟨ws, upd_same, c⟩
  rw [set_back hj] at this
  exact ⟨e, q0, this⟩
theorem r_lock (hj : μ[j]? = some (a, .dK kvs)) (h : ∀ od ws, Run C t (lkE D a (.dK ws) od) M δ (μ.set j (a, .fz od ws kvs))) : Run C (tLock t) D M δ μ := fun σ H o => by
  obtain ⟨ws, e, k⟩ := ok_lock o hj
  exact ⟨a, .dK ws, e, trivial, fun od => h od ws _ _ (k od)⟩
theorem q_lock (hj : μ[j]? = some (a, .dK kvs)) (h : ∀ od ws, Run C t (lkE { D with nx := t2 D } a (.dK ws) od) M δ (μ.set j (a, .fz od ws kvs))) : Run C (tSeq (tLock t) t2) D M δ μ := r_lock (D := { D with nx := t2 D }) hj h
theorem lk_nx (hj : μ[j]? = some (a, .dK kvs)) (k : Nx C D M δ μ) : Nx C (lkE D a (.dK ws) od) M δ (μ.set j (a, .fz od ws kvs)) := fun σ H o => by
  obtain ⟨e, _, o'⟩ := ok_unlock hj o
  exact ⟨e, k _ _ o'⟩
/-- handing back from within -/
theorem lk_ret (hj : μ1[j]? = some (a, .dK kvs)) (h : EvX C te M δ μ (μ1.set j (a, .fz od ws kvs)) (.d d)) (hs : ∀ p ∈ μ', p ∈ μ1) (k : FinE C D d μ') : Run C (tRet te) (lkE D a (.dK ws) od) M δ μ := fun σ H o => h σ H o _ fun v H1 o1 x1 r => by
  obtain ⟨e, aM, o'⟩ := ok_unlock hj o1
  exact ⟨e, k v M _ o'.gr o'.sub (fun p hp => (o'.mem p (hs p hp)).2.2) (by rw [hide_upd aM]; exact r)⟩
theorem x_lock {e : Ent} (hj : μ[j]? = some (a, .dK kvs)) (h : ∀ od ws, EvX C te M δ (μ.set j (a, .fz od ws kvs)) (μ.set j (a, .fz od ws kvs)) e) : EvX C (tLockE te) M δ μ μ e := fun σ H o Q k => by
  obtain ⟨ws, e0, kk⟩ := ok_lock o hj
  refine ⟨a, .dK ws, e0, trivial, fun od => h od ws _ _ (kk od) _ fun v H1 o1 x1 r => ?_⟩
  obtain ⟨e1, aM, o'⟩ := ok_unlock hj o1
  rw [hide_upd aM] at x1
  exact ⟨e1, k v _ o' (by rw [hide_upd aM]; exact x1) (by rw [hide_upd aM]; exact r)⟩
theorem w_keys {K : PySem.W.Frag} {Hh : Hp} {l : Dct} {Hx : Hp} (c : DcOk K Hx ws (kd l)) : WalkN K (Itk a od ws) Hh (fun H => H a = some (.frz od (.dK ws))) ((l.map (·.1)).map .str) where
  go := fun M i H hi _ _ n => ⟨n, by rw [dc_len c]; simpa using hi⟩
  stop := fun M H _ _ n => ⟨n, by rw [dc_len c]; simp⟩
  yld := fun M i H x H' hi al ex n y => by
    obtain ⟨rfl, k, v, e1, rfl⟩ := y
    obtain ⟨p, e2, rfl⟩ := dc_get c e1
    refine ⟨Ex.refl _, .str p.1, ?_, .str _⟩
    rw [List.getElem?_map, List.getElem?_map, e2]; rfl
theorem i_keys {l : Dct} (h : EvX C ta M δ μ μ1 (.m a)) (hm : (a, .fz od ws (kd l)) ∈ μ1) : EvIN C (iKeys ta) M δ μ μ1 (fun H => H a = some (.frz od (.dK ws))) ((l.map (·.1)).map .str) := fun σ H o R k => h σ H o _ fun v H1 o1 x1 r => by
  have r' : v = .ref a := r
  obtain ⟨_, _, e, c⟩ := o1.mem _ hm
  exact ⟨a, od, r', .inl ⟨ws, e, k _ H1 o1 x1 (w_keys c)⟩⟩
theorem ok_frz {l : Dct} (hm : (a, .fz od ws (kd l)) ∈ μ) (o : Ok C M δ μ σ H1) : H1 a = some (.frz od (.dK ws)) := (o.mem _ hm).2.2.1
end
end FD
/-! a comprehension of two fors -/
namespace FD
open PySem L2 Evl
section
variable {C : Cfg} {M : List Addr} {δ : List Ent} {μ μ' : Mem}
theorem wipe_two {σ2 σ3 : L2.St} {vs1 : List Nat} (h : wipe σ3 vs1 = wipe σ2 vs1) : True := trivial
theorem x_lc2P {N : Hp → Prop} {wi wi1 : TI} {g g1 : TG} {tt : TT} {te : TE} {vs vs1 : List Nat} {xs : List PyData} (b : Nat → Bool) (ys : Nat → List PyData) (f : Nat → Nat → PyData) (hi : EvIN C wi M δ μ μ' N xs) (hN : ∀ (B : Hp) (D : Addr) (σ : L2.St) (H : Hp), Ok { C with B := B } (D :: M) δ μ' σ H → N H)
    (hz : ((List.range xs.length).map fun i => (ys i).length).sum ≤ 90000)
    (hs : ∀ (i : Nat) (d : PyData), xs[i]? = some d → ∀ (G B : Hp) (D : Addr), ∃ ts δ1, TgX C.K g ts d (wipeE δ vs) δ1 ∧ (∀ k ∈ ts, k ∈ vs) ∧ EvT { C with G := G, B := B } tt (D :: M) δ1 μ' μ' (b i) ∧
      (b i = true → EvI { C with G := G, B := B } wi1 (D :: M) δ1 μ' μ' (ys i) ∧ ∀ (j : Nat) (e : PyData), (ys i)[j]? = some e → ∃ ts1 δ2, TgX C.K g1 ts1 e (wipeE δ1 vs1) δ2 ∧ (∀ k ∈ ts1, k ∈ vs1) ∧ ∀ G B : Hp, EvX { C with G := G, B := B } te (D :: M) δ2 μ' μ' (.d (f i j)))) :
    EvX C (tLc2 wi g tt wi1 g1 tYes te vs vs1) M δ μ μ' (.d (.list ((List.range xs.length).flatMap fun i => if b i = true then (List.range (ys i).length).map (f i) else []))) := fun σ H o Q k => by
  refine hi σ H o _ fun J H1 o1 x1 W D hD => ?_
  have oB := o1.toB
  have hDM : D ∉ M := o1.fresh hD
  have o2 : Ok { C with B := hide M H1 } (D :: M) δ μ' σ (upd H1 D (.lst [])) :=
    (oB.new hD (mo := .lst []) ⟨[], upd_same, .nil⟩).mems (fun p hp => List.mem_cons_of_mem _ hp) o1.nd
  have hSM : ∀ p ∈ μ', p.1 ∈ M := fun p hp => (o1.mem p hp).1
  have nD : ∀ p ∈ μ', p.1 ≠ D := fun p hp z => hDM (z ▸ hSM p hp)
  have gD : C.G D = none := by
    cases z : C.G D with
    | none => rfl
    | some u => have := o1.gr D u z; rw [hD] at this; cases this
  generalize hg : (fun i => if b i = true then (List.range (ys i).length).map (f i) else []) = gg
  have hgl : ∀ n, n ≤ xs.length → ((List.range n).flatMap gg).length ≤ ((List.range n).map fun i => (ys i).length).sum := by
    intro n
    induction n with
    | zero => intro _; simp
    | succ n ih =>
      intro hn
      rw [List.range_succ, List.flatMap_append, List.map_append, List.sum_append, List.length_append]
      have := ih (by omega)
      have e2 : ([n].flatMap gg).length ≤ (ys n).length := by
        rw [List.flatMap_singleton, ← hg]
        dsimp only
        split
        · simp
        · simp
      simp only [List.map_cons, List.map_nil, List.sum_cons, List.sum_nil]
      omega
  have hmono : ∀ n, n < xs.length → ((List.range n).map fun i => (ys i).length).sum + (ys n).length ≤ 90000 := by
    intro n hn
    have : ∀ m, n + 1 ≤ m → ((List.range (n + 1)).map fun i => (ys i).length).sum ≤ ((List.range m).map fun i => (ys i).length).sum := by
      intro m hm
      induction m with
      | zero => omega
      | succ m ih =>
        by_cases e : n + 1 = m + 1
        · rw [e]; exact Nat.le_refl _
        · have := ih (by omega)
          rw [List.range_succ (n := m), List.map_append, List.sum_append]
          omega
    have h1 := this xs.length (by omega)
    rw [List.range_succ, List.map_append, List.sum_append] at h1
    simp only [List.map_cons, List.map_nil, List.sum_cons, List.sum_nil] at h1
    omega
  refine ⟨fun i m H' => m = xs.length - i ∧ i ≤ xs.length ∧ Ok { C with B := hide M H1 } (D :: M) δ μ' σ H' ∧ ∃ acc, H' D = some (.lst acc) ∧ DpAll C.K (hide (D :: M) H') acc ((List.range i).flatMap gg),
    ⟨xs.length, by simp, Nat.zero_le _, o2, [], upd_same, .nil⟩, ?_⟩
  rintro i m H' ⟨rfl, hi', oi, acc, hacc, dacc⟩
  by_cases hlt : i < xs.length
  · refine .inr ⟨W.go (D :: M) i H' hlt oi.alloc oi.base (hN _ _ _ _ oi), fun H'' => Ok { C with B := hide M H1 } (D :: M) δ μ' σ H'' ∧ ∃ acc, H'' D = some (.lst acc) ∧ DpAll C.K (hide (D :: M) H'') acc ((List.range (i + 1)).flatMap gg),
      fun H'' q => ⟨xs.length - (i + 1), by omega, rfl, hlt, q⟩, fun x H2 y => ?_⟩
    obtain ⟨e2, d, hd, dx⟩ := W.yld (D :: M) i H' x H2 hlt oi.alloc oi.base (hN _ _ _ _ oi) y
    have o3 := oi.grow e2
    have o4 := o3.toG
    obtain ⟨ts, δ1, tg, hts, ht, hin⟩ := hs i d hd (hide (μ'.map (·.1)) H2) (hide M H1) D
    have hD2 : H2 D = some (.lst acc) := e2 D _ hacc
    have outD : D ∉ μ'.map (·.1) := fun z => by
      obtain ⟨r, hr, er⟩ := List.mem_map.mp z
      exact nD r hr er
    have gD2 : hide (μ'.map (·.1)) H2 D = some (.lst acc) := by rw [hide_out outD]; exact hD2
    refine tg { C with G := hide (μ'.map (·.1)) H2, B := hide M H1 } _ _ _ _ _ rfl (o4.wiped vs) dx _ fun σ2 o5 hl2 hσ2 => ⟨wipe_eq (by rw [hl2, wipe_length]) hσ2 hts, ?_⟩
    refine ht σ2 H2 o5 _ fun H3 o6 x6 => ?_
    have hlen : acc.length ≤ ((List.range i).map fun i => (ys i).length).sum := by rw [dacc.length]; exact hgl i (by omega)
    have d3 : DpAll C.K (hide (D :: M) H3) acc ((List.range i).flatMap gg) := dpAll_mono ((hide_ex e2).trans x6) _ _ dacc
    have hD3 : H3 D = some (.lst acc) := o6.gr D _ gD2
    have esucc : (List.range (i + 1)).flatMap gg = (List.range i).flatMap gg ++ gg i := by rw [List.range_succ, List.flatMap_append, List.flatMap_singleton]
    cases hb : b i with
    | false =>
      rw [if_neg Bool.false_ne_true]
      refine ⟨o3.swap (o3.ofG o6) x6, acc, hD3, ?_⟩
      rw [esucc, show gg i = [] by rw [← hg]; simp [hb], List.append_nil]
      exact d3
    | true =>
      rw [if_pos rfl]
      obtain ⟨hi1, hin1⟩ := hin hb
      refine hi1 σ2 H3 o6 _ fun J1 H4 o7 x7 W1 => ?_
      have hD4 : H4 D = some (.lst acc) := o7.gr D _ gD2
      have o7' : Ok { C with B := hide (D :: M) H4 } (D :: M) δ1 μ' σ2 H4 := (o3.ofG o7).toB
      have o8 : Ok { C with B := hide M H1 } (D :: M) δ μ' σ H4 := o3.swap (o3.ofG o7) (x6.trans x7)
      have egg : gg i = (List.range (ys i).length).map (f i) := by rw [← hg]; simp [hb]
      refine ⟨fun j m H' => m = (ys i).length - j ∧ j ≤ (ys i).length ∧ Ok { C with B := hide (D :: M) H4 } (D :: M) δ1 μ' σ2 H' ∧ Ok { C with B := hide M H1 } (D :: M) δ μ' σ H' ∧ ∃ acc, H' D = some (.lst acc) ∧ DpAll C.K (hide (D :: M) H') acc ((List.range i).flatMap gg ++ (List.range j).map (f i)),
        ⟨(ys i).length, by simp, Nat.zero_le _, o7', o8, acc, hD4, by rw [List.range_zero, List.map_nil, List.append_nil]; exact dpAll_mono x7 _ _ d3⟩, ?_⟩
      rintro j m H5 ⟨rfl, hj', oj, oj2, acc1, hacc1, dacc1⟩
      by_cases hlt1 : j < (ys i).length
      · refine .inr ⟨W1.go (D :: M) j H5 hlt1 oj.alloc oj.base, fun H'' => Ok { C with B := hide (D :: M) H4 } (D :: M) δ1 μ' σ2 H'' ∧ Ok { C with B := hide M H1 } (D :: M) δ μ' σ H'' ∧ ∃ acc, H'' D = some (.lst acc) ∧ DpAll C.K (hide (D :: M) H'') acc ((List.range i).flatMap gg ++ (List.range (j + 1)).map (f i)),
          fun H'' q => ⟨(ys i).length - (j + 1), by omega, rfl, hlt1, q⟩, fun x1 H6 y1 => ?_⟩
        obtain ⟨e6, e, he, dx1⟩ := W1.yld (D :: M) j H5 x1 H6 hlt1 oj.alloc oj.base y1
        have p3 := oj.grow e6
        have p4 := p3.toG
        obtain ⟨ts1, δ2, tg1, hts1, hel⟩ := hin1 j e he
        have hD6 : H6 D = some (.lst acc1) := e6 D _ hacc1
        have gD6 : hide (μ'.map (·.1)) H6 D = some (.lst acc1) := by rw [hide_out outD]; exact hD6
        refine tg1 { C with G := hide (μ'.map (·.1)) H6, B := hide (D :: M) H4 } _ _ _ _ _ rfl (p4.wiped vs1) dx1 _ fun σ3 p5 hl3 hσ3 => ⟨wipe_eq (by rw [hl3, wipe_length]) hσ3 hts1, ?_⟩
        unfold tYes
        dsimp only
        rw [if_pos rfl]
        refine hel _ _ σ3 H6 p5 _ fun v H7 p7 x7 r7 => ?_
        have hD7 : H7 D = some (.lst acc1) := p7.gr D _ gD6
        have q8 : Ok { C with B := hide (D :: M) H4 } (D :: M) δ1 μ' σ2 H7 := p3.swap (p3.ofG p7) x7
        have pg := (oj2.grow e6)
        have q9 : Ok { C with B := hide M H1 } (D :: M) δ μ' σ H7 :=
          ⟨pg.len, fun i y h1 h2 => let ⟨v, a, c⟩ := pg.slot i y h1 h2; ⟨v, a, c.mono x7⟩, q8.mem, q8.nd, q8.alloc, q8.sub, q8.gr, pg.base.trans x7⟩
        have l1 : acc1.length ≤ 90000 := by
          rw [dacc1.length, List.length_append, List.length_map, List.length_range]
          have := hmono i hlt
          have := hgl i (by omega)
          omega
        refine ⟨acc1, hD7, sz_lt (by omega), q8.writeH List.mem_cons_self nD gD, q9.writeH List.mem_cons_self nD gD, _, upd_same, ?_⟩
        rw [hide_upd List.mem_cons_self, List.range_succ, List.map_append, ← List.append_assoc]
        exact (dpAll_mono ((hide_ex e6).trans x7) _ _ dacc1).append (.cons r7 .nil)
      · have ej : j = (ys i).length := by omega
        subst ej
        refine .inl ⟨W1.stop (D :: M) H5 oj.alloc oj.base, oj2, acc1, hacc1, ?_⟩
        rw [esucc, egg]
        exact dacc1
  · have ei : i = xs.length := by omega
    subst ei
    refine .inl ⟨W.stop (D :: M) H' oi.alloc oi.base (hN _ _ _ _ oi), ?_⟩
    have s1 : ∀ a ∈ M, a ∈ D :: M := fun a ha => List.mem_cons_of_mem _ ha
    have oE : Ok C M δ μ' σ H' := (oi.drop (M := M) s1 hSM o1.sub).reB o1.base
    have xE : Ex (hide M H) (hide M H') := x1.trans (oi.base.trans (hide_sub s1))
    subst hg
    refine k _ H' oE xE (.lst (sq_of ?_) (dpAll_mono (hide_sub s1) _ _ dacc))
    rw [hide_out hDM]; exact hacc
end
end FD
/-! texts, bits, more of lists; t[::-1] of a tuple -/
namespace FD
open PySem PySem.Spec L2 PyProof.Rows HT
section
variable {prog : Program} {w : World} {A : Around} {E : Value → Shared → Prop} {s : Shared}
theorem fm_congr {α β : Type} {f g : α → Option β} : ∀ {l : List α}, (∀ m ∈ l, f m = g m) → l.filterMap f = l.filterMap g
  | [], _ => rfl
  | x :: l, h => by
    rw [List.filterMap_cons, List.filterMap_cons, h x List.mem_cons_self, fm_congr fun m hm => h m (List.mem_cons_of_mem _ hm)]
theorem back_adjust (n : Nat) : Builtin.Slice.sliceAdjust none none (-1) (n : Int) = ((n : Int) - 1, -1) := rfl
theorem back_places (n : Nat) : Builtin.Slice.slicePlaces ((n : Int) - 1) (-1) (-1) = n := by
  unfold Builtin.Slice.slicePlaces
  rw [if_neg (by decide)]
  split
  · have e : ((n : Int) - 1 - -1 - 1) / (- -1) = (n : Int) - 1 := by
      rw [show (- -1 : Int) = 1 by decide, Int.ediv_one]
      omega
    rw [e]; omega
  · omega
theorem back_pick (xs : Array Value) : ((List.range xs.size).filterMap fun (m : Nat) => xs[((xs.size : Int) - 1 + (m : Int) * (-1)).toNat]?) = xs.toList.reverse := by
  have e : ∀ m ∈ List.range xs.size, xs[((xs.size : Int) - 1 + (m : Int) * (-1)).toNat]? = xs.toList.reverse[m]? := fun m hm => by
    have hm := List.mem_range.mp hm
    rw [List.getElem?_reverse (by simpa using hm), Array.length_toList, Array.getElem?_toList]
    congr 1
    omega
  rw [fm_congr e]
  refine List.ext_getElem? fun i => ?_
  have key : ∀ (ys : List Value) (n : Nat), n ≤ ys.length → (List.range n).filterMap (fun m => ys[m]?) = ys.take n := by
    intro ys n
    induction n with
    | zero => intro _; simp
    | succ n ih =>
      intro h
      rw [List.range_succ, List.filterMap_append, ih (by omega), List.take_add_one]
      simp [show n < ys.length by omega]
  rw [key _ _ (by simp), List.take_of_length_le (by simp)]
theorem getItem_back {t sl : Addr} {items : Array Value} {vz : Value} {Q : Value → Shared → Prop} (ht : IsTup s.heap t items) (hs : s.heap.IsSliceOf sl .none .none vz) (pz : IsPart vz (some (-1)))
    (h : Q (.ref s.heap.objs.size) { s with heap := s.heap.push { cls := .type "tuple", data := .seq items.toList.reverse.toArray } }) (hsz : items.size ≤ sizeLine) : wpAny (model prog w) A (getItem (.ref t) (.ref sl)) Q E s := by
  have okS : sizeOk (.seq items.toList.reverse.toArray) := by
    show items.toList.reverse.toArray.size ≤ sizeLine
    simpa using hsz
  obtain ⟨os, hos, hcs, hds⟩ := id hs
  have tS : s.TypeIs (.ref sl) "slice" := ⟨os, hos, hcs⟩
  unfold getItem
  try with_reducible refine wpAny_holding ?_
  first | refine wpAny_bind (wpAny_pure ?_) | skip
  refine wpAny_bind (wpAny_sequenceKey ht.typeIs (by decide) ?_)
  refine wpAny_bind (wpAny_callSpecial?_slot (name := Str.ofString "__getitem__") ht.typeIs PyProof.Rows.slot_tuple_getitem (wpAny_call_entry PyProof.Rows.slot_tuple_getitem ht.typeIs entry_tuple_getitem ?_ (args_tuple_getitem _ _)))
  show wpAny _ _ (Builtin.Tuple.tupleItemsOf (.ref t) >>= _) _ _ s
  refine wpAny_bind (tupleItemsOf_ ht ?_)
  refine wpAny_bind (wpAny_typeOf tS ?_)
  rw [if_pos (by decide)]
  refine wpAny_bind ?_
  unfold Builtin.Slice.sliceApplied Builtin.Slice.sliceFields
  refine wpAny_bind (wpAny_bind (wpAny_field hos hds (x := .none) rfl (wpAny_bind (wpAny_field hos hds (x := .none) rfl (wpAny_bind (wpAny_field hos hds (x := vz) rfl (wpAny_pure ?_)))))))
  refine wpAny_bind (slicePart_ pz ?_)
  show wpAny _ _ (if ((-1 : Int) == 0) = true then _ else _) _ _ s
  rw [if_neg (by decide)]
  refine wpAny_bind (slicePart_none (wpAny_bind (slicePart_none (wpAny_bind (wpAny_pure ?_)))))
  show wpAny _ _ (match Builtin.Slice.sliceAdjust none none (-1) (items.size : Int) with | (lo, hi) => pure (lo, (-1 : Int), Builtin.Slice.slicePlaces lo hi (-1))) _ _ s
  rw [back_adjust]
  show wpAny _ _ (pure ((items.size : Int) - 1, (-1 : Int), Builtin.Slice.slicePlaces ((items.size : Int) - 1) (-1) (-1))) _ _ s
  rw [back_places]
  refine wpAny_pure ?_
  have no1 : ¬ ((((items.size : Int) - 1 == 0) && ((-1 : Int) == 1) && (items.size == items.size)) = true) := by simp
  show wpAny _ _ (if (((items.size : Int) - 1 == 0) && ((-1 : Int) == 1) && (items.size == items.size)) = true then _ else _) _ _ s
  rw [if_neg no1, back_pick]
  first
    | exact wpAny_bind (m := Builtin.Tuple.tupleExact _) (wpAny_newObj_type (wpAny_pure ⟨_, rfl, wpAny_pure h⟩) okS)
    | exact wpAny_bind (m := Builtin.Tuple.tupleExact _) (wpAny_newObj_type (wpAny_bind (wpAny_pure (wpAny_pure ⟨_, rfl, wpAny_pure h⟩))) okS)
    | exact wpAny_bind (wpAny_bind (m := Builtin.Tuple.tupleExact _) (wpAny_newObj_type (wpAny_pure (wpAny_pure ⟨_, rfl, wpAny_pure h⟩)) okS))
    | exact wpAny_bind (wpAny_bind (m := Builtin.Tuple.tupleExact _) (wpAny_newObj_type (wpAny_pure ⟨_, rfl, wpAny_pure h⟩) okS))
end
def tRevT (K : PySem.W.Frag) (te : TE) : TE := fun σ H Q => te σ H fun x H1 => ∃ a xs, x = .ref a ∧ SqT K H1 a xs ∧ ∀ p, H1 p = none → Q (.ref p) (upd H1 p (.tup xs.reverse))
section
variable {X : Cx}
theorem pe_revT {e : Expr} {te : TE} {k : Nat} {p1 p2 p3 pos : Pos} (he : PE X e te) : PE X (.Subscript e (.Slice none none (some (.UnaryOp .USub (.Constant (.int 1) k p1) p2)) p3) pos) (tRevT X.K te) := by
  refine ⟨fun pins s σ H Q I h => ?_⟩
  refine Subscript_ (thn (he.run pins s σ H _ I h) fun v s1 ⟨x, H1, I1, r1, a, xs, ex, hx, q⟩ => ?_)
  subst ex
  cases r1
  have st1 : PO X (some (.UnaryOp .USub (.Constant (.int 1) k p1) p2)) (tPart (tUn (rU fun i => .int (-i)) (tC (.int 1)))) := po_some (pe_un un_neg pe_int)
  have n0 : PO X none tNoPart := po_none
  refine wpAny_Slice ?_
  rw [evalPart_none]
  refine wpAny_pure (wpAny_pure ?_)
  refine thn (st1.run pins s1 σ H1 (fun o H4 => o = some (-1) ∧ H4 = H1) I1 ⟨1, rfl, -1, rfl, rfl, rfl⟩) fun vz s4 ⟨o, H4, I4, pz, eo, e4⟩ => ?_
  subst eo e4
  have I5 : Inv X pins σ H4 { s4 with heap := s4.heap.push { cls := .type "slice", data := .fields #[.none, .none, vz] } } := I4.kept (t' := s4.toks) fun b ob q => Heap.get?_push_of_some _ q
  obtain ⟨its, r, pt, hz⟩ := I5.tuple hx
  have hlen := r.length
  show wpAny (model X.prog X.w) X.A (subscriptTail e (.Slice none none (some (.UnaryOp .USub (.Constant (.int 1) k p1) p2)) p3) (.ref a) (.ref s4.heap.objs.size)) (EP X pins σ Q) X.xe { s4 with heap := s4.heap.push { cls := .type "slice", data := .fields #[.none, .none, vz] } }
  refine tail_any (ops := [.ref a, .ref s4.heap.objs.size]) pt.typeIs (PyProof.Rows.slot_tuple_getitem.lookup) ?_ (by with_unfolding_all rfl)
  refine getItem_back pt (Heap.IsSliceOf.new _ .none .none vz) pz ?_ (by rw [List.size_toArray]; omega)
  refine ⟨.ref _, _, I5.laid (t' := s4.toks) (o := .tup xs.reverse) (fun b ob q => Heap.get?_push_of_some _ q) (Nat.le_refl _) ?_, rfl, q _ (I5.hok.fresh (Nat.le_refl _))⟩
  exact ⟨by rw [List.length_reverse]; exact hz, its.reverse, r.reverse, ⟨_, Heap.get?_push_size _ rfl, rfl, _, rfl⟩⟩
end
end FD
namespace FD
open PySem L2 Evl
theorem DpAll.bools {K : PySem.W.Frag} {H : Hp} : ∀ {vs : List V} {ns : List Bool}, DpAll K H vs (ns.map PyData.bool) → vs = ns.map V.bl
  | vs, [], h => by cases h; rfl
  | vs, n :: ns, h => by
    cases h with
    | cons h1 h2 =>
      cases h1
      rw [DpAll.bools h2]
      rfl
theorem inV_strs (z : Str) (zs : List Str) : inV (.str z) (zs.map V.str) = decide (z ∈ zs) := by
  unfold inV
  rw [List.any_map]
  rw [Bool.eq_iff_iff, List.any_eq_true, decide_eq_true_eq]
  constructor
  · rintro ⟨y, hy, e⟩
    have e : (y == z) = true := e
    rw [← eq_of_beq e]; exact hy
  · exact fun h => ⟨z, h, (beq_self_eq_true z : (z == z) = true)⟩
section
variable {C : Cfg} {M : List Addr} {δ : List Ent} {μ μ1 μ2 μ3 μ' : Mem} {ta tb te : TE} {a : Addr} {e : Ent} {tr : TA} {D : Ends} {t2 : TS} {i j : Nat} {z y : Str} {zs : List Str} {ds : List PyData} {d : PyData}
/-! ### texts -/
abbrev rAddStr : R2 := fun x y H Q => ∃ i j, x = .str i ∧ y = .str j ∧ i.length + j.length ≤ sizeLine ∧ Q (.str (i ++ j)) H
theorem o_addS (h : z.length + y.length ≤ 100000) : OpX C rAddStr M δ μ μ (.d (.str z)) (.d (.str y)) (.d (.str (z ++ y))) := fun σ H u v o h1 h2 Q k =>
  ⟨z, y, Dp.str_of h1, Dp.str_of h2, sz_of h, k _ H o (Ex.refl _) (.str _)⟩
theorem x_slS {tl th : TO} {lo hi : Option Int} (h : EvX C te M δ μ μ1 (.d (.str z))) (hl : EvO C tl M δ μ1 μ2 lo) (hh : EvO C th M δ μ2 μ3 hi) (hz : z.length ≤ 100000) : EvX C (tSl rSlS te tl th) M δ μ μ3 (.d (.str (cutS z lo hi))) := fun σ H o Q k =>
  h σ H o _ fun v H1 o1 x1 r1 => hl σ H1 o1 _ fun H2 o2 x2 => hh σ H2 o2 _ fun H3 o3 x3 => ⟨z, Dp.str_of r1, sz_of hz, k _ H3 o3 (x1.trans (x2.trans x3)) (.str _)⟩
theorem o_ixS {n : Int} {c : Nat} (hz : z.length ≤ 100000) (ha : atI z.cps.toList n = some c) : OpX C rIxS M δ μ μ (.d (.str z)) (.d (.int n)) (.d (.str ⟨#[c]⟩)) := fun σ H u v o h1 h2 Q k =>
  ⟨z, n, c, Dp.str_of h1, Dp.int_of h2, sz_of hz, ha, k _ H o (Ex.refl _) (.str _)⟩
abbrev rLenStr : List V → Hp → VK → Prop := fun xs H Q => ∃ z, xs = [.str z] ∧ z.length ≤ sizeLine ∧ Q (.int z.length) H
theorem c_lenS (hz : z.length ≤ 100000) : CallX C rLenStr M δ μ μ [.d (.str z)] (.d (.int z.length)) := fun σ H vs o h Q k => by
  obtain ⟨v, rfl, q⟩ := p1 h
  exact ⟨z, by rw [Dp.str_of q], sz_of hz, k _ H o (Ex.refl _) (.int _)⟩
/-! ### a text in a list or tuple of texts -/
theorem o_inL (r : Rdd μ e (.list (zs.map .str))) : OpX C (rIn C.K false) M δ μ μ (.d (.str z)) e (.d (.bool (decide (z ∈ zs)))) := fun σ H u v o h1 h2 Q k => by
  obtain ⟨p, ws, q1, q2, q3⟩ := r.lst o h2
  have e3 := DpAll.strs q3
  subst e3
  refine ⟨p, zs.map V.str, q1, .inl q2, by rw [Dp.str_of h1]; rfl, flat_strs zs, ?_⟩
  rw [Dp.str_of h1, if_neg Bool.false_ne_true, inV_strs]
  exact k _ H o (Ex.refl _) (.bl _)
theorem o_inT : OpX C (rIn C.K false) M δ μ μ (.d (.str z)) (.d (.tuple (zs.map .str))) (.d (.bool (decide (z ∈ zs)))) := fun σ H u v o h1 h2 Q k => by
  obtain ⟨p, ws, q1, q2, q3⟩ := Dp.tup_of h2
  have e3 := DpAll.strs q3
  subst e3
  refine ⟨p, zs.map V.str, q1, .inr (ex_t hide_le q2), by rw [Dp.str_of h1]; rfl, flat_strs zs, ?_⟩
  rw [Dp.str_of h1, if_neg Bool.false_ne_true, inV_strs]
  exact k _ H o (Ex.refl _) (.bl _)
theorem o_notInL (r : Rdd μ e (.list (zs.map .str))) : OpX C (rIn C.K true) M δ μ μ (.d (.str z)) e (.d (.bool (!decide (z ∈ zs)))) := fun σ H u v o h1 h2 Q k => by
  obtain ⟨p, ws, q1, q2, q3⟩ := r.lst o h2
  have e3 := DpAll.strs q3
  subst e3
  refine ⟨p, zs.map V.str, q1, .inl q2, by rw [Dp.str_of h1]; rfl, flat_strs zs, ?_⟩
  rw [Dp.str_of h1, if_pos rfl, inV_strs]
  exact k _ H o (Ex.refl _) (.bl _)
/-! ### all, any -/
theorem c_all {bs : List Bool} (r : Rdd μ e (.list (bs.map .bool))) : CallX C (rAll C.K) M δ μ μ [e] (.d (.bool (bs.all id))) := fun σ H vs o h Q k => by
  obtain ⟨v, rfl, q⟩ := p1 h
  obtain ⟨p, ws, q1, q2, q3⟩ := r.lst o q
  have e3 := DpAll.bools q3
  subst e3
  exact ⟨p, bs, by rw [q1], q2, k _ H o (Ex.refl _) (.bl _)⟩
theorem c_any {bs : List Bool} (r : Rdd μ e (.list (bs.map .bool))) : CallX C (rAny C.K) M δ μ μ [e] (.d (.bool (bs.any id))) := fun σ H vs o h Q k => by
  obtain ⟨v, rfl, q⟩ := p1 h
  obtain ⟨p, ws, q1, q2, q3⟩ := r.lst o q
  have e3 := DpAll.bools q3
  subst e3
  exact ⟨p, bs, by rw [q1], q2, k _ H o (Ex.refl _) (.bl _)⟩
/-! ### list(x), pops, repeats -/
abbrev rListOf (K : PySem.W.Frag) : List V → Hp → VK → Prop := fun xs H Q => ∃ p ys, xs = [.ref p] ∧ (SqL K H p ys ∨ SqT K H p ys) ∧ ∀ l, H l = none → Q (.ref l) (upd H l (.lst ys))
/-- x = list(t): a list of one's own -/
theorem q_listT (h : EvA C tr M δ μ μ1 [.d (.tuple ds)]) (k : ∀ p, p ∉ M → Run C t2 D (p :: M) (δ.set i (.m p)) ((p, .lst ds) :: μ1)) : Run C (tSeq (tAsg (tCB (rListOf C.K) tr) (gName i)) t2) D M δ μ := fun σ H o => h σ H o _ fun vs H1 o1 x1 r1 => by
  obtain ⟨v, rfl, q⟩ := p1 r1
  obtain ⟨p, ws, q1, q2, q3⟩ := Dp.tup_of q
  refine ⟨p, ws, by rw [q1], .inr (ex_t hide_le q2), fun l hp => ?_⟩
  have o2 := o1.new hp (mo := .lst ds) (ho := .lst ws) ⟨ws, upd_same, dpAll_mono (hide_new hp) _ _ q3⟩
  exact k l (o1.fresh hp) _ _ (o2.set i (e := .m l) rfl)
theorem dp_dropLast {K : PySem.W.Frag} {H : Hp} {vs : List V} {ds : List PyData} (h : DpAll K H vs ds) : DpAll K H vs.dropLast ds.dropLast := by
  rw [List.dropLast_eq_take, List.dropLast_eq_take, h.length]
  exact h.take _
/-- x.pop() -/
theorem r_pop (hx : EvX C ta M δ μ μ1 (.m a)) (hj : μ1[j]? = some (a, .lst ds)) (h0 : ds ≠ []) (k : Nx C D M δ (μ1.set j (a, .lst ds.dropLast))) : Run C (tDrop (tBM0 C.K "list" rPop ta)) D M δ μ := fun σ H o => hx σ H o _ fun v H1 o1 x1 r1 => by
  have e1 : v = .ref a := r1
  subst e1
  obtain ⟨_, _, vs, q1, q2⟩ := o1.mem _ (List.mem_of_getElem? hj)
  have hl : 0 < vs.length := by rw [q2.length]; exact List.length_pos_iff.mpr h0
  refine ⟨.inl ⟨rfl, _, SqL.of q1⟩, a, vs, vs[vs.length - 1], rfl, rfl, q1, by simp [show vs.length - 1 < vs.length by omega], ?_⟩
  exact k _ _ (o1.write hj ⟨_, upd_same, dp_dropLast q2⟩)
/-- x = [z] * n -/
theorem q_rep {n : Nat} {z : Int} (h : ∀ p, p ∉ M → EvX C tb (p :: M) δ ((p, .lst [.int z]) :: μ) ((p, .lst [.int z]) :: μ) (.d (.int (n : Int)))) (hn : n ≤ 100000)
    (k : ∀ p q, p ∉ M → q ∉ p :: M → Run C t2 D (q :: p :: M) (δ.set i (.m q)) ((q, .lst (List.replicate n (.int z))) :: (p, .lst [.int z]) :: μ)) : Run C (tSeq (tAsg (tOp rRep (tLst (tCons (tC (.int z)) tNil)) tb) (gName i)) t2) D M δ μ := fun σ H o => ⟨sz_of (by simp), fun p hp => by
  have pM := o.fresh hp
  have o2 : Ok C (p :: M) δ ((p, .lst [.int z]) :: μ) σ (upd H p (.lst [.int z])) := o.new hp (mo := .lst [.int z]) (ho := .lst [.int z]) ⟨_, upd_same, .cons (.int z) .nil⟩
  refine h p pM σ _ o2 _ fun v H1 o1 x1 r1 => ?_
  obtain ⟨_, _, vs, q1, q2⟩ := o1.mem _ List.mem_cons_self
  have e1 : vs = [.int z] := DpAll.ints (ns := [z]) q2
  subst e1
  refine ⟨p, n, _, rfl, Dp.int_of r1, q1, by omega, by omega, sz_of (by simp; omega), fun q hq => ?_⟩
  have e2 : (List.replicate ((n : Int)).toNat [V.int z]).flatten = List.replicate n (V.int z) := by
    rw [Int.toNat_natCast]
    clear q2 r1 h k
    induction n with
    | zero => rfl
    | succ n ih => rw [List.replicate_succ, List.flatten_cons, ih (by omega)]; rfl
  rw [e2]
  have dr : DpAll C.K (hide (q :: p :: M) (upd H1 q (.lst (List.replicate n (V.int z))))) (List.replicate n (V.int z)) (List.replicate n (PyData.int z)) := by
    clear e2 r1 h k
    induction n with
    | zero => exact .nil
    | succ n ih => rw [List.replicate_succ, List.replicate_succ]; exact .cons (.int z) (by have := ih (by omega); clear ih; exact (by
        have w : ∀ {A B : Hp} {vs : List V} {ns : List Int}, DpAll C.K A vs (ns.map PyData.int) → DpAll C.K B vs (ns.map PyData.int) := fun h => by rw [DpAll.ints h]; exact DpAll.of_ints _
        have e : List.replicate n (PyData.int z) = (List.replicate n z).map PyData.int := by rw [List.map_replicate]
        rw [e] at this ⊢
        exact w this))
  have o3 := o1.new hq (mo := .lst (List.replicate n (.int z))) (ho := .lst (List.replicate n (V.int z))) ⟨_, upd_same, dr⟩
  exact k p q pM (o1.fresh hq) _ _ (o3.set i (e := .m q) rfl)⟩
/-- x += e -/
theorem r_aug {m n : Int} {f : Int → Int → Int} (hx : δ[i]? = some (.d (.int m))) (h : EvX C te M δ μ μ1 (.d (.int n))) (k : Nx C D M (δ.set i (.d (.int (f m n)))) μ1) : Run C (tAug i te (ipI f)) D M δ μ := fun σ H o => by
  obtain ⟨v, e1, e2⟩ := o.slot i _ hx (fun z => nomatch z)
  refine ⟨v, e1, h σ H o _ fun y H1 o1 x1 r1 => ⟨m, n, Dp.int_of e2, Dp.int_of r1, ?_⟩⟩
  exact k _ H1 (o1.set i (e := .d (.int (f m n))) (.int _))
theorem dp_reverse {K : PySem.W.Frag} {A : Hp} : ∀ {vs : List V} (ds : List PyData), DpAll K A vs ds → DpAll K A vs.reverse ds.reverse
  | _, [], h => by cases h; exact .nil
  | _, d :: ds, h => by
    cases h with
    | cons r t => rw [List.reverse_cons, List.reverse_cons]; exact (dp_reverse ds t).append (.cons r .nil)
theorem x_revT (h : EvX C te M δ μ μ1 (.d (.tuple ds))) : EvX C (tRevT C.K te) M δ μ μ1 (.d (.tuple ds.reverse)) := fun σ H o Q k => h σ H o _ fun v H1 o1 x1 r1 => by
  obtain ⟨p, ws, q1, q2, q3⟩ := Dp.tup_of r1
  refine ⟨p, ws, q1, ex_t hide_le q2, fun q hq => ?_⟩
  obtain ⟨o', x', d'⟩ := o1.tup hq (dp_reverse _ q3)
  exact k _ _ o' (x1.trans x') d'
/-- range(m, n, -1) -/
def downD (lo : Int) (n : Nat) : List PyData := (List.range n).map fun (i : Nat) => PyData.int (lo - (i : Int))
theorem downD_length (lo : Int) (n : Nat) : (downD lo n).length = n := by simp [downD]
theorem downD_get {lo : Int} {n i : Nat} (h : i < n) : (downD lo n)[i]? = some (.int (lo - (i : Int))) := by simp [downD, h]
theorem i_down {m n : Int} (h : EvA C tr M δ μ μ' [.d (.int m), .d (.int n), .d (.int (-1))]) (h0 : -(2 ^ 62) ≤ m ∧ m < 2 ^ 62 ∧ -(2 ^ 62) ≤ n ∧ n < 2 ^ 62) : EvI C (iRng3 tr) M δ μ μ' (downD m (m - n).toNat) := fun σ H o R k => h σ H o _ fun vs H1 o1 x1 r => by
  cases r with
  | cons r1 r => cases r with
    | cons r2 r => cases r with
      | cons r3 r =>
        cases r
        refine ⟨m, n, -1, (m - n).toNat, by rw [Dp.int_of r1, Dp.int_of r2, Dp.int_of r3], RgC.neg h0.1 h0.2.1 h0.2.2.1 h0.2.2.2, k _ H1 o1 x1 ⟨fun M i H hi _ _ => by rw [downD_length] at hi; exact hi, fun M H _ _ => by rw [downD_length]; exact Nat.le_refl _, fun M i H x H' hi al ex y => ?_⟩⟩
        obtain ⟨rfl, rfl⟩ := y
        rw [downD_length] at hi
        refine ⟨Ex.refl _, _, downD_get hi, ?_⟩
        rw [show m + (i : Int) * (-1) = m - (i : Int) by omega]
        exact .int _
/-- a, b = a list of two -/
theorem tg_lst2 {K : PySem.W.Frag} {i j : Nat} {d1 d2 : PyData} : TgX K (gLst K 2 (gCons (gName i) (gCons (gName j) gNil))) [i, j] (.list [d1, d2]) δ ((δ.set i (.d d1)).set j (.d d2)) := fun C M μ σ H v hK o h Q k => by
  subst hK
  obtain ⟨a, vs, q1, q2, q3⟩ := Dp.lst_of h
  cases q3 with
  | cons h1 q3 =>
    cases q3 with
    | cons h2 q3 =>
      cases q3
      refine ⟨a, _, q1, ex_l hide_le q2, rfl, _, _, rfl, _, _, rfl, rfl, ?_⟩
      refine k _ ((o.set i (e := .d d1) h1).set j (e := .d d2) h2) (by rw [List.length_set, List.length_set]) fun m hm => ?_
      rw [List.getElem?_set_ne (fun z => hm (by simp [z])), List.getElem?_set_ne (fun z => hm (by simp [z]))]
end
end FD
/-! lists of any origin put together -/
namespace FD
open PySem PySem.Spec L2 PyProof.Rows HT
def rCatL (K : PySem.W.Frag) : R2 := fun x y H Q => ∃ l b xs zs, x = .ref l ∧ y = .ref b ∧ SqL K H l xs ∧ SqL K H b zs ∧ xs.length + zs.length ≤ sizeLine ∧ ∀ p, H p = none → Q (.ref p) (upd H p (.lst (xs ++ zs)))
section
variable {X : Cx}
theorem op_catL : OpR X (binaryOp .Add) (rCatL X.K) := by
  intro pins s σ H x y v u Q I rx ry h
  obtain ⟨l, b, xs, zs, rfl, rfl, hl, hb, hz, q⟩ := h
  cases rx
  cases ry
  obtain ⟨its, r1, ⟨o1, n1, e1, c1, d1, f1⟩, _⟩ := I.list hl
  obtain ⟨its2, r2, ⟨o2, n2, e2, c2, d2, f2⟩, _⟩ := I.list hb
  obtain ⟨cl, dd, da, sl⟩ := o1
  obtain ⟨cl2, dd2, da2, sl2⟩ := o2
  simp only at c1 d1 f1 c2 d2 f2
  subst c1 c2
  try subst d1
  try subst d2
  try subst f1
  try subst f2
  have hlen := r1.length
  have hlen2 := r2.length
  have ea : its.toArray ++ its2.toArray = (its ++ its2).toArray := by simp
  refine concat_meets ⟨_, e1, rfl⟩ ⟨_, e2, rfl⟩ noFill_list_add seq_list_add PySem.F.slot_list_add PySem.F.entry_list_add (PySem.F.args_list_add_2 _ _) (list_addW l b its.toArray its2.toArray _ _ _ _ _ _ (by rw [List.size_toArray, List.size_toArray]; omega)) ⟨e1, e2, ?_⟩
  rw [ea]
  exact ⟨.ref _, _, I.lnew (t' := s.toks) (r1.append r2) (by rw [List.length_append]; omega), rfl, q _ I.fresh⟩
end
end FD
namespace FD
open PySem L2 Evl
theorem o_catL {C : Cfg} {M : List Addr} {δ : List Ent} {μ : Mem} {ds es : List PyData} (hz : ds.length + es.length ≤ 100000) : OpX C (rCatL C.K) M δ μ μ (.d (.list ds)) (.d (.list es)) (.d (.list (ds ++ es))) := fun σ H u v o h1 h2 Q k => by
  obtain ⟨a, vs, q1, q2, q3⟩ := Dp.lst_of h1
  obtain ⟨b, ws, p1, p2, p3⟩ := Dp.lst_of h2
  refine ⟨a, b, vs, ws, q1, p1, ex_l hide_le q2, ex_l hide_le p2, sz_of (by rw [q3.length, p3.length]; exact hz), fun p hp => ?_⟩
  obtain ⟨o', x', d'⟩ := o.lst hp (q3.append p3)
  exact k _ _ o' x' d'
end FD
/-! promises over objects where the def chooses what comes back -/
namespace FD
open PySem L2 Evl
def spX (K : PySem.W.Frag) (n : Nat) (Pre : List Ent → Mem → Prop) (Post : List Ent → Mem → PyData → Mem → Prop) : Sp := fun vs H Q _ => vs.length = n ∧ ∃ M es μ, (∀ a ∈ M, H a ≠ none) ∧ Paired (EntOk K (hide M H)) es vs ∧ (∀ p ∈ μ, p.1 ∈ M ∧ MOok K (hide M H) H p.1 p.2) ∧ (ad μ).Nodup ∧ Pre es μ ∧
  ∀ v H' d μ', Post es μ d μ' → ad μ' = ad μ → Ex (hide (ad μ) H) H' → (∀ p ∈ μ', MOok K (hide M H') H' p.1 p.2) → Dp K (hide M H') v d → Q v H'
def spXN (K : PySem.W.Frag) (n : Nat) (Pre : List Ent → Mem → Prop) (Post : List Ent → Mem → MO → Mem → Prop) : Sp := fun vs H Q _ => vs.length = n ∧ ∃ M es μ, (∀ a ∈ M, H a ≠ none) ∧ Paired (EntOk K (hide M H)) es vs ∧ (∀ p ∈ μ, p.1 ∈ M ∧ MOok K (hide M H) H p.1 p.2) ∧ (ad μ).Nodup ∧ Pre es μ ∧
  ∀ p H' mo μ', Post es μ mo μ' → ad μ' = ad μ → H p = none → Ex (hide (ad μ) H) H' → MOok K (hide (p :: M) H') H' p mo → (∀ q ∈ μ', MOok K (hide (p :: M) H') H' q.1 q.2) → Q (.ref p) H'
section
variable {P : Program} {w : World} {K : PySem.W.Frag} {mg : Str → Option Value} {base : Heap}
theorem def_X {x qual : Str} {st : Stmt} {f : Addr} {fd : FuncData} {N ps : List Str} {k n : Nat} {Pre : List Ent → Mem → Prop} {Post : List Ent → Mem → PyData → Mem → Prop} (F : Fun K x qual st f fd) (S : FnScope N ps (defScope st)) (hN : ps.length ≤ N.length) (hp : ps.length = n)
    (h : ∀ (cdv : Value) (A : Around) (outer : List Env) (s : Shared) (H : Hp) (E : XK), Room k (A.deeper (PyProof.Rows.envOfC qual (defScope st) s.heap.objs.size f cdv)) →
      ∃ t, PSs (cxOf CX0 P w K mg base N qual (defScope st) f cdv A outer s H E).nox (defBody st) t ∧
        ∀ (M : List Addr) (G B : Hp) (es : List Ent) (μ : Mem), (ad μ).Nodup → Pre es μ → ∀ D : Ends, (∀ d μ', Post es μ d μ' → ad μ' = ad μ → FinE ⟨K, M, G, B⟩ D d μ') → Run ⟨K, M, G, B⟩ t D M (startE N.length es.length es) μ) :
    FnOk P w K mg base CX0 (k + 1) f fd ps (spX K n Pre Post) := by
  refine F.ok S (fun vs H Q E hs => hs.1.trans hp.symm) fun cdv A outer s H vs Q E hr hs => ?_
  obtain ⟨hn, M, es, μ, al, he, hm, nd, hP, kk⟩ := hs
  obtain ⟨t, ht, run⟩ := h cdv A outer s H E hr
  refine ⟨t, ht, run M (hide (ad μ) H) (hide M H) es μ nd hP _ (fun d μ' hq had v M' H' e s m r => kk v H' d μ' hq had e (fun p hp => (m p hp).mono (hide_sub s) fun _ q => q) (dp_mono (hide_sub s) _ _ r)) _ _ (ok_startE al he hm nd (by rw [hn, ← hp]; exact hN))⟩
theorem def_XN {x qual : Str} {st : Stmt} {f : Addr} {fd : FuncData} {N ps : List Str} {k n : Nat} {Pre : List Ent → Mem → Prop} {Post : List Ent → Mem → MO → Mem → Prop} (F : Fun K x qual st f fd) (S : FnScope N ps (defScope st)) (hN : ps.length ≤ N.length) (hp : ps.length = n)
    (h : ∀ (cdv : Value) (A : Around) (outer : List Env) (s : Shared) (H : Hp) (E : XK), Room k (A.deeper (PyProof.Rows.envOfC qual (defScope st) s.heap.objs.size f cdv)) →
      ∃ t, PSs (cxOf CX0 P w K mg base N qual (defScope st) f cdv A outer s H E).nox (defBody st) t ∧
        ∀ (M : List Addr) (G B : Hp) (es : List Ent) (μ : Mem), (ad μ).Nodup → Pre es μ → ∀ D : Ends, (∀ mo μ', Post es μ mo μ' → ad μ' = ad μ → FinEN ⟨K, M, G, B⟩ D mo μ') → Run ⟨K, M, G, B⟩ t D M (startE N.length es.length es) μ) :
    FnOk P w K mg base CX0 (k + 1) f fd ps (spXN K n Pre Post) := by
  refine F.ok S (fun vs H Q E hs => hs.1.trans hp.symm) fun cdv A outer s H vs Q E hr hs => ?_
  obtain ⟨hn, M, es, μ, al, he, hm, nd, hP, kk⟩ := hs
  obtain ⟨t, ht, run⟩ := h cdv A outer s H E hr
  refine ⟨t, ht, run M (hide (ad μ) H) (hide M H) es μ nd hP _ (fun mo μ' hq had p M' H' g pM e s pm m mm => ?_) _ _ (ok_startE al he hm nd (by rw [hn, ← hp]; exact hN))⟩
  have sub : ∀ a ∈ p :: M, a ∈ M' := fun a ha => (List.mem_cons.mp ha).elim (fun z => by rw [z]; exact pm) (s a)
  have hp0 : H p = none := by
    have : hide (ad μ) H p = none := g
    rw [hide_out (fun z => ?_)] at this
    · exact this
    · obtain ⟨q, hq, e⟩ := List.mem_map.mp z
      exact pM (by have := (hm q hq).1; rw [e] at this; exact this)
  exact kk p H' mo μ' hq had hp0 e (m.mono (hide_sub sub) fun _ q => q) (fun q hq => (mm q hq).mono (hide_sub sub) fun _ q => q)
end
section
variable {C : Cfg} {M : List Addr} {δ : List Ent} {μ μ0 μ1 : Mem} {tr : TA} {D : Ends} {t1 t2 : TS} {i j n : Nat} {es : List Ent} {E : XK} {b : Addr} {mo mo' : MO} {u : TT} {g : TG}
theorem swap_set (hj : μ1[j]? = some (b, mo)) (nd : (ad μ1).Nodup) : Swap [(b, mo)] [(b, mo')] μ1 (μ1.set j (b, mo')) where
  sub := fun p hp => by rw [List.mem_singleton.mp hp]; exact List.mem_of_getElem? hj
  ad0 := rfl
  ad1 := map_set_fst hj
  new := fun p hp => by
    obtain ⟨k, hk⟩ := List.getElem?_of_mem hp
    by_cases q : j = k
    · subst q
      rw [List.getElem?_set_self (List.getElem?_eq_some_iff.mp hj).1] at hk
      exact .inl (by rw [← Option.some.inj hk]; simp)
    · rw [List.getElem?_set_ne q] at hk
      refine .inr ⟨List.mem_of_getElem? hk, fun z => ?_⟩
      have z : p.1 = b := by simpa using z
      obtain ⟨x, y⟩ := p
      have z : x = b := z
      subst z
      exact q (nodup_fst nd hj hk)
theorem r_asgXG {Pre : List Ent → Mem → Prop} {Post : List Ent → Mem → PyData → Mem → Prop} (h : EvA C tr M δ μ μ1 es) (hsub : ∀ p ∈ μ0, p ∈ μ1) (nd : (ad μ1).Nodup → (ad μ0).Nodup) (hP : Pre es μ0)
    (k : (ad μ1).Nodup → ∀ d μ0', Post es μ0 d μ0' → ad μ0' = ad μ0 → ∃ μ2 tl δ2, Swap μ0 μ0' μ1 μ2 ∧ TgX C.K g tl d δ δ2 ∧ Nx C D M δ2 μ2) (hn : es.length = n := by rfl) :
    Run C (tAsg (tCall (spX C.K n Pre Post) [] E tr) g) D M δ μ := fun σ H o => h σ H o _ fun vs H1 o1 x1 r1 => by
  rw [List.append_nil]
  refine ⟨by rw [← paired_len r1]; exact hn, M, es, μ0, o1.alloc, r1, fun p hp => let q := o1.mem p (hsub p hp); ⟨q.1, q.2.2⟩, nd o1.nd, hP, fun v H2 d μ0' hq had e2 m2 d2 => ?_⟩
  obtain ⟨μ2, tl, δ2, sw, tg, run⟩ := k o1.nd d μ0' hq had
  obtain ⟨o2, x2⟩ := after_E o1 sw e2 m2
  exact tg C M μ2 σ H2 v rfl o2 d2 _ fun σ' o3 _ _ => run σ' H2 o3
theorem q_asgXG {Pre : List Ent → Mem → Prop} {Post : List Ent → Mem → PyData → Mem → Prop} (h : EvA C tr M δ μ μ1 es) (hsub : ∀ p ∈ μ0, p ∈ μ1) (nd : (ad μ1).Nodup → (ad μ0).Nodup) (hP : Pre es μ0)
    (k : (ad μ1).Nodup → ∀ d μ0', Post es μ0 d μ0' → ad μ0' = ad μ0 → ∃ μ2 tl δ2, Swap μ0 μ0' μ1 μ2 ∧ TgX C.K g tl d δ δ2 ∧ Run C t2 D M δ2 μ2) (hn : es.length = n := by rfl) :
    Run C (tSeq (tAsg (tCall (spX C.K n Pre Post) [] E tr) g) t2) D M δ μ := r_asgXG (D := { D with nx := t2 D }) h hsub nd hP k hn
theorem q_asgXN {Pre : List Ent → Mem → Prop} {Post : List Ent → Mem → MO → Mem → Prop} (h : EvA C tr M δ μ μ1 es) (hsub : ∀ p ∈ μ0, p ∈ μ1) (nd : (ad μ1).Nodup → (ad μ0).Nodup) (hP : Pre es μ0)
    (k : (ad μ1).Nodup → ∀ mo μ0', Post es μ0 mo μ0' → ad μ0' = ad μ0 → ∃ μ2, Swap μ0 μ0' μ1 μ2 ∧ ∀ p, p ∉ M → Run C t2 D (p :: M) (δ.set i (.m p)) ((p, mo) :: μ2)) (hn : es.length = n := by rfl) :
    Run C (tSeq (tAsg (tCall (spXN C.K n Pre Post) [] E tr) (gName i)) t2) D M δ μ := fun σ H o => h σ H o _ fun vs H1 o1 x1 r1 => by
  rw [List.append_nil]
  refine ⟨by rw [← paired_len r1]; exact hn, M, es, μ0, o1.alloc, r1, fun p hp => let q := o1.mem p (hsub p hp); ⟨q.1, q.2.2⟩, nd o1.nd, hP, fun p H2 mo μ0' hq had hp e2 m1 m2 => ?_⟩
  obtain ⟨μ2, sw, run⟩ := k o1.nd mo μ0' hq had
  obtain ⟨pM, o2⟩ := ok_newE (G := []) o1 sw hp e2 m1 m2
  exact run p pM _ _ (o2.set i (e := .m p) rfl)
/-- if not f(..) or u: .. -/
theorem r_ifX {Pre : List Ent → Mem → Prop} {Post : List Ent → Mem → PyData → Mem → Prop} (h : EvA C tr M δ μ μ1 es) (hsub : ∀ p ∈ μ0, p ∈ μ1) (nd : (ad μ1).Nodup → (ad μ0).Nodup) (hP : Pre es μ0)
    (k : (ad μ1).Nodup → ∀ d μ0', Post es μ0 d μ0' → ad μ0' = ad μ0 → d = .bool true ∧ ∃ μ2, Swap μ0 μ0' μ1 μ2 ∧ EvT C u M δ μ2 μ2 false ∧ Run C t2 D M δ μ2) (hn : es.length = n := by rfl) :
    Run C (tIfS (tOr (tNot (tB (tCall (spX C.K n Pre Post) [] E tr))) u) t1 t2) D M δ μ := fun σ H o => h σ H o _ fun vs H1 o1 x1 r1 => by
  rw [List.append_nil]
  refine ⟨by rw [← paired_len r1]; exact hn, M, es, μ0, o1.alloc, r1, fun p hp => let q := o1.mem p (hsub p hp); ⟨q.1, q.2.2⟩, nd o1.nd, hP, fun v H2 d μ0' hq had e2 m2 d2 => ?_⟩
  obtain ⟨rfl, μ2, sw, ht, run⟩ := k o1.nd d μ0' hq had
  obtain ⟨o2, x2⟩ := after_E o1 sw e2 m2
  refine ⟨true, Dp.bool_of d2, ?_⟩
  show (if (!true) = true then _ else _)
  rw [if_neg (by decide)]
  refine ht σ H2 o2 _ fun H3 o3 x3 => ?_
  show (if false = true then _ else _)
  rw [if_neg (by decide)]
  exact run σ H3 o3
end
end FD
/-! more of promises over objects: keywords, a new dict compared at once -/
namespace FD
open PySem L2 Evl
section
variable {C : Cfg} {M : List Addr} {δ : List Ent} {μ μ1 : Mem} {tr : TA} {ta tb : TE} {D : Ends} {t1 t2 : TS} {i m n : Nat} {es es' : List Ent} {E : XK} {a b : Addr} {mo mo' : MO} {d : PyData} {gV : List V → List V → List V}
theorem q_asgEN1 {R : List Ent → Mem → MO → Mem → Prop} (h : EvA C tr M δ μ μ1 es) (hj : (a, mo) ∈ μ1) (hR : R es [(a, mo)] mo' [(a, mo)]) (k : ∀ p, p ∉ M → Run C t2 D (p :: M) (δ.set i (.m p)) ((p, mo') :: μ1)) (hn : es.length = n := by rfl) :
    Run C (tSeq (tAsg (tCall (spEN C.K n R) [] E tr) (gName i)) t2) D M δ μ := fun σ H o => h σ H o _ fun vs H1 o1 x1 r1 => by
  rw [List.append_nil]
  refine ⟨by rw [← paired_len r1]; exact hn, M, es, [(a, mo)], mo', [(a, mo)], o1.alloc, r1, fun p hp => by rw [List.mem_singleton.mp hp]; let q := o1.mem _ hj; exact ⟨q.1, q.2.2⟩, by simp, rfl, hR, fun p H2 hp e2 m1 m2 => ?_⟩
  obtain ⟨pM, o2⟩ := ok_newE (G := []) o1 (swap_same hj o1.nd) hp e2 m1 m2
  exact k p pM _ _ (o2.set i (e := .m p) rfl)
theorem x_callEK {R : List Ent → Mem → PyData → Mem → Prop} (h : EvA C tr M δ μ μ1 es) (hg : ∀ (H : Hp) (zs : List V), Paired (EntOk C.K H) es zs → Paired (EntOk C.K H) es' (gV [] zs)) (hj : (a, mo) ∈ μ1) (hR : R es' [(a, mo)] d [(a, mo)]) (hm : es.length = m := by rfl) (hn : es'.length = n := by rfl) :
    EvX C (tCallN 0 m (spE C.K n R) gV E tNil tr) M δ μ μ1 (.d d) := fun σ H o Q k => h σ H o _ fun vs H1 o1 x1 r1 => by
  have d1 := hg _ _ r1
  refine ⟨rfl, by rw [← paired_len r1]; exact hm, by rw [← paired_len d1]; exact hn, M, es', [(a, mo)], d, [(a, mo)], o1.alloc, d1, fun p hp => by rw [List.mem_singleton.mp hp]; let q := o1.mem _ hj; exact ⟨q.1, q.2.2⟩, by simp, rfl, hR, fun v H2 e2 m2 d2 => ?_⟩
  obtain ⟨o2, x2⟩ := after_E o1 (swap_same hj o1.nd) e2 m2
  exact k v H2 o2 (x1.trans x2) d2
theorem o_neDK {l : Dct} (ha : (a, .dK (kd l)) ∈ μ) (hb : (b, .dK (kd l)) ∈ μ) (nd : (l.map (·.1)).Nodup) (sh : ∀ p ∈ l, SeqAt.shaped p.2 = true) : OpX C (rNeDK C.K) M δ μ μ (.m a) (.m b) (.d (.bool false)) := fun σ H x y o h1 h2 Q k => by
  obtain ⟨_, _, ks, e1, c1⟩ := o.mem _ ha
  obtain ⟨_, _, ls, e2, c2⟩ := o.mem _ hb
  exact ⟨a, b, ks, ls, l, h1, h2, e1, e2, Paired.mapP c1 fun p q z => ⟨z.1, DvOk.mono hide_le z.2⟩, Paired.mapP c2 fun p q z => ⟨z.1, DvOk.mono hide_le z.2⟩, nd, sh, k _ H o (Ex.refl _) (.bl _)⟩
/-- if f(k = x) != y: .., dicts both -/
theorem r_ifEN {R : List Ent → Mem → MO → Mem → Prop} {l : Dct} (h : EvA C tr M δ μ μ1 es) (hg : ∀ (H : Hp) (zs : List V), Paired (EntOk C.K H) es zs → Paired (EntOk C.K H) es' (gV [] zs)) (hj : (a, mo) ∈ μ1) (hR : R es' [(a, mo)] (.dK (kd l)) [(a, mo)])
    (hb : ∀ p, p ∉ M → EvX C tb (p :: M) δ ((p, .dK (kd l)) :: μ1) ((p, .dK (kd l)) :: μ1) (.m b)) (hm : (b, .dK (kd l)) ∈ μ1) (nd : (l.map (·.1)).Nodup) (sh : ∀ p ∈ l, SeqAt.shaped p.2 = true) (k : ∀ p, p ∉ M → Run C t2 D (p :: M) δ ((p, .dK (kd l)) :: μ1)) (hm' : es.length = m := by rfl) (hn : es'.length = n := by rfl) :
    Run C (tIfS (tTest (tOp (rNeDK C.K) (tCallN 0 m (spEN C.K n R) gV E tNil tr) tb)) t1 t2) D M δ μ := fun σ H o => h σ H o _ fun vs H1 o1 x1 r1 => by
  have d1 := hg _ _ r1
  refine ⟨rfl, by rw [← paired_len r1]; exact hm', by rw [← paired_len d1]; exact hn, M, es', [(a, mo)], .dK (kd l), [(a, mo)], o1.alloc, d1, fun p hp => by rw [List.mem_singleton.mp hp]; let q := o1.mem _ hj; exact ⟨q.1, q.2.2⟩, by simp, rfl, hR, fun p H2 hp e2 m1 m2 => ?_⟩
  obtain ⟨pM, o2⟩ := ok_newE (G := []) o1 (swap_same hj o1.nd) hp e2 m1 m2
  refine hb p pM σ H2 o2 _ fun y H3 o3 x3 r3 => ?_
  refine o_neDK (a := p) (b := b) List.mem_cons_self (List.mem_cons_of_mem _ hm) nd sh σ H3 (.ref p) y o3 rfl r3 _ fun v H4 o4 x4 r4 => ?_
  refine ⟨false, Dp.bool_of r4, ?_⟩
  dsimp only
  rw [if_neg Bool.false_ne_true]
  exact k p pM σ H4 o4
theorem q_ifEN {R : List Ent → Mem → MO → Mem → Prop} {l : Dct} {t3 : TS} (h : EvA C tr M δ μ μ1 es) (hg : ∀ (H : Hp) (zs : List V), Paired (EntOk C.K H) es zs → Paired (EntOk C.K H) es' (gV [] zs)) (hj : (a, mo) ∈ μ1) (hR : R es' [(a, mo)] (.dK (kd l)) [(a, mo)])
    (hb : ∀ p, p ∉ M → EvX C tb (p :: M) δ ((p, .dK (kd l)) :: μ1) ((p, .dK (kd l)) :: μ1) (.m b)) (hm : (b, .dK (kd l)) ∈ μ1) (nd : (l.map (·.1)).Nodup) (sh : ∀ p ∈ l, SeqAt.shaped p.2 = true) (k : ∀ p, p ∉ M → Run C t3 D (p :: M) δ ((p, .dK (kd l)) :: μ1)) (hm' : es.length = m := by rfl) (hn : es'.length = n := by rfl) :
    Run C (tSeq (tIfS (tTest (tOp (rNeDK C.K) (tCallN 0 m (spEN C.K n R) gV E tNil tr) tb)) t1 tNext) t3) D M δ μ := r_ifEN (D := { D with nx := t3 D }) (t2 := tNext) h hg hj hR hb hm nd sh k hm' hn
end
end FD
/-! sets of tuples of texts, found by their hashes -/
namespace FD
open PySem PySem.Spec L2 PyProof.Rows PySem.W PySem.Froz
/-- the tuple at b has the texts k -/
abbrev Tx (P : Program) (w : World) (h : Heap) (k : List Str) (b : Addr) : Prop := IsTupleKey (strKind P w) h k b
abbrev tsh (P : Program) (w : World) (k : List Str) : Int := tupleKeyHash (strKind P w) k
abbrev Mbs := List (Addr × List Str)
theorem strs_items {P : Program} {w : World} {k : List Str} {vs : List Value} (h : ItemsAre (strKind P w) k vs) : ∀ v ∈ vs, ∃ z t, v = Value.str z t := by
  induction h with
  | nil => exact fun v hv => absurd hv (by simp)
  | @cons z v ks vs q _ ih =>
    intro u hu
    rcases List.mem_cons.mp hu with e | hu
    · have q : Value.isStrOf z v = true := q
      cases v with
      | str y t => exact ⟨y, t, e⟩
      | _ => simp [Value.isStrOf] at q
    · exact ih u hu
theorem strsAre_items {P : Program} {w : World} {k : List Str} {vs : List Value} (h : ItemsAre (strKind P w) k vs) : StrsAre vs k := by
  induction h with
  | nil => exact .nil
  | @cons z v ks vs q _ ih =>
    have q : Value.isStrOf z v = true := q
    cases v with
    | str y t =>
      have e : y = z := by simpa [Value.isStrOf] using q
      subst e
      exact .cons y t ih
    | _ => simp [Value.isStrOf] at q
theorem cls_str (n : Nat) (z : Str) (t : Tok) : ofAClassStatement n (.str z t) = pure false := by
  cases n <;> rfl
theorem byv_str (n : Nat) (z : Str) (t : Tok) : hashByValue n (.str z t) = pure false := by
  unfold hashByValue
  cases n <;> rfl
theorem prb_dum (m : Nat) : ∀ (n : Nat) (p : SetTable.Probe), p.dummy = none → (nth m p n).dummy = none
  | 0, _, e => e
  | n + 1, p, e => prb_dum m n (adv m p) (by unfold adv; split <;> exact e)
section
variable {P : Program} {w : World} {A : Around} {E : Value → Shared → Prop} {s : Shared}
theorem tx_keep {h h' : Heap} {k : List Str} {b : Addr} (x : Tx P w h k b) (up : ∀ c u, h.get? c = some u → h'.get? c = some u) : Tx P w h' k b :=
  let ⟨u, its, m, g, r⟩ := x
  ⟨u, its, m, up b u g, r⟩
theorem tx_off {h h' : Heap} {k : List Str} {b S : Addr} {T : SD} (x : Tx P w h k b) (g : h.get? S = some (sObj "set" T)) (sb : Heap.SameBut S h h') : Tx P w h' k b := by
  obtain ⟨u, its, m, gu, c, dt, r⟩ := x
  refine ⟨u, its, m, (sb.2 b fun z => ?_).trans gu, c, dt, r⟩
  rw [z, g] at gu
  cases gu
  exact nomatch dt
theorem tx_cls {k : List Str} {b : Addr} {Q : Bool → Shared → Prop} (x : Tx P w s.heap k b) (q : Q false s) : wpAny (model P w) A (ofAClassStatement 8 (.ref b)) Q E s := by
  have ty := x.typeIs
  obtain ⟨u, its, m, gu, _, dt, is⟩ := x
  unfold ofAClassStatement
  refine wpAny_bind (wpAny_typeOf ty ?_)
  dsimp only
  have e : (("tuple" : String) == "tuple") = true := by decide
  simp only [e, if_true, Bool.not_true, Bool.false_eq_true, if_false]
  show wpAny _ _ (seqItems? (.ref b) >>= _) _ _ s
  refine wpAny_bind (wpAny_seqItems gu dt ?_)
  dsimp only
  refine wpAny_bind ?_
  show wpAny _ _ (forIn its _ _) _ _ s
  rw [← Array.forIn_toList]
  refine wpAny_forIn_list _ (fun l r t => r.1 = none ∧ t = s ∧ ∀ v ∈ l, ∃ z t, v = Value.str z t) _ ?_ ?_ _ _ ⟨rfl, rfl, strs_items is⟩
  · rintro v l r t ⟨hr, rfl, hl⟩
    obtain ⟨z, t, rfl⟩ := hl v List.mem_cons_self
    rw [cls_str]
    refine wpAny_bind (wpAny_pure ?_)
    simp only [Bool.false_eq_true, if_false]
    exact wpAny_pure ⟨rfl, rfl, fun y hy => hl y (List.mem_cons_of_mem _ hy)⟩
  · rintro ⟨r1, r2⟩ t ⟨hr, rfl, _⟩
    have hr : r1 = none := hr
    subst hr
    exact wpAny_pure q
theorem tx_byv {k : List Str} {b : Addr} {Q : Bool → Shared → Prop} (x : Tx P w s.heap k b) (q : ∀ c, Q c s) : wpAny (model P w) A (hashByValue 8 (.ref b)) Q E s := by
  have ty := x.typeIs
  obtain ⟨u, its, m, gu, _, dt, is⟩ := x
  unfold hashByValue
  refine wpAny_bind (wpAny_specialOf ty F.slot_tuple_hash.lookup ?_)
  show wpAny _ _ (seqItems? (.ref b) >>= _) _ _ s
  refine wpAny_bind (wpAny_seqItems gu dt ?_)
  refine wpAny_bind ?_
  show wpAny _ _ (forIn its _ _) _ _ s
  rw [← Array.forIn_toList]
  refine wpAny_forIn_list _ (fun l r t => r.1 = none ∧ t = s ∧ ∀ v ∈ l, ∃ z t, v = Value.str z t) _ ?_ ?_ _ _ ⟨rfl, rfl, strs_items is⟩
  · rintro v l r t ⟨hr, rfl, hl⟩
    obtain ⟨z, t, rfl⟩ := hl v List.mem_cons_self
    rw [byv_str]
    refine wpAny_bind (wpAny_pure ?_)
    simp only [Bool.not_false, if_true]
    exact wpAny_pure (wpAny_pure (q false))
  · rintro ⟨r1, r2⟩ t ⟨hr, rfl, _⟩
    have hr : r1 = none := hr
    subst hr
    exact wpAny_pure (q true)
/-- a search among tuples of texts is seen by nobody -/
theorem tx_seen {k : List Str} {b : Addr} {Q : Bool → Shared → Prop} (x : Tx P w s.heap k b) {ys : List Value} (hy : ∀ y ∈ ys, ∃ l c, y = Value.ref c ∧ Tx P w s.heap l c) (q : Q false s) :
    wpAny (model P w) A (searchCouldBeSeen (.ref b) ys) Q E s := by
  unfold searchCouldBeSeen
  refine wpAny_bind ?_
  refine wpAny_forIn_list _ (fun l r t => r.1 = none ∧ t = s ∧ ∀ y ∈ l, ∃ k' c, y = Value.ref c ∧ Tx P w s.heap k' c) _ ?_ ?_ _ _ ⟨rfl, rfl, hy⟩
  · rintro v l r t ⟨hr, rfl, hl⟩
    obtain ⟨k', c, rfl, xc⟩ := hl v List.mem_cons_self
    have hl' : ∀ y ∈ l, ∃ k' c, y = Value.ref c ∧ Tx P w t.heap k' c := fun y hy => hl y (List.mem_cons_of_mem _ hy)
    dsimp only
    by_cases z : (b == c || (carriedByValue (.ref b) && carriedByValue (.ref c))) = true
    · exact wp_if_pos z (wpAny_pure ⟨rfl, rfl, hl'⟩)
    · refine wp_if_neg z (wpAny_bind (wpAny_eqIsQuiet_tuple x ?_))
      simp only [Bool.not_true, Bool.false_eq_true, if_false]
      refine wpAny_bind (wpAny_eqIsQuiet_tuple xc ?_)
      simp only [Bool.not_true, Bool.false_eq_true, if_false]
      refine wpAny_bind (tx_cls x ?_)
      simp only [Bool.false_eq_true, if_false]
      refine wpAny_bind (tx_cls xc ?_)
      simp only [Bool.false_eq_true, if_false]
      exact wpAny_pure ⟨rfl, rfl, hl'⟩
  · rintro ⟨r1, r2⟩ t ⟨hr, rfl, _⟩
    have hr : r1 = none := hr
    subst hr
    exact wpAny_pure q
end
def tEnt (P : Program) (w : World) (L : Mbs) : List (Int × Value) := L.map fun q => (tsh P w q.2, Value.ref q.1)
/-- the set at S: its members, in its table's order -/
structure TtS (P : Program) (w : World) (h : Heap) (S : Addr) (L : Mbs) (T : SD) : Prop where
  obj : h.get? S = some (sObj "set" T)
  ent : T.1.toList = tEnt P w L
  tab : TabOk T.2.2 (L.map fun q => tsh P w q.2)
  dif : (L.map (·.2)).Nodup
  tps : ∀ q ∈ L, Tx P w h q.2 q.1
  mar : w.params.followText "set-order" = true ∨ T.2.2.led = true
  rm : L.length * 5 < T.2.2.mask * 3
  few : L.length < 64
section
variable {P : Program} {w : World} {A : Around} {E : Value → Shared → Prop} {s : Shared} {S : Addr} {L : Mbs} {T : SD}
theorem TtS.num {h : Heap} (R : TtS P w h S L T) : T.1.size = L.length := by
  have e := congrArg List.length R.ent
  rw [Array.length_toList] at e
  rw [e]
  exact List.length_map _
theorem TtS.fit {h : Heap} (R : TtS P w h S L T) : T.2.2.fits T.1.size = true := by
  have a := R.tab.sz
  rw [List.length_map] at a
  have b := R.num
  have c := R.rm
  unfold SetTable.fits SetTable.fill
  rw [R.tab.dm, Bool.and_eq_true, beq_iff_eq, decide_eq_true_eq]
  refine ⟨a.trans b.symm, ?_⟩
  rw [a]
  show L.length + 0 ≤ T.2.2.mask
  omega
theorem TtS.at {h : Heap} (R : TtS P w h S L T) {i : Nat} {q : Addr × List Str} (e : L[i]? = some q) : T.1[i]? = some (tsh P w q.2, Value.ref q.1) := by
  have z : T.1.toList[i]? = some (tsh P w q.2, Value.ref q.1) := by rw [R.ent]; simp [tEnt, e]
  rw [← Array.getElem?_toList]
  exact z
theorem TtS.gave {h : Heap} (R : TtS P w h S L T) : ¬ T.2.2.gaveWay = true := by
  have z := mask_odd R.tab.mok
  unfold SetTable.gaveWay
  rw [z]
  decide
theorem TtS.up {h h' : Heap} (R : TtS P w h S L T) (k : ∀ c u, h.get? c = some u → h'.get? c = some u) : TtS P w h' S L T :=
  ⟨k _ _ R.obj, R.ent, R.tab, R.dif, fun q hq => tx_keep (R.tps q hq) k, R.mar, R.rm, R.few⟩
/-- the search, from the c-th step of its way on; the N-th step meets the first empty slot -/
theorem tt_hunt (R : TtS P w s.heap S L T) {x : Addr} {k : List Str} (hx : Tx P w s.heap k x) (hu : A.units < cLine) {N : Nat} (n1 : N < 10 * SetTable.turns T.2.2.mask) (n2 : way T.2.2.mask (tsh P w k) N ∉ T.2.2.place.toList)
    (n3 : ∀ c, c < N → way T.2.2.mask (tsh P w k) c ∈ T.2.2.place.toList) {Q : SetFound → Shared → Prop} (yes : k ∈ L.map (·.2) → Q (.there none) s) (no : k ∉ L.map (·.2) → Q (.free (way T.2.2.mask (tsh P w k) N) false) s) :
    ∀ (fuel c : Nat) (st : Option SetTable.Probe), st.getD (T.2.2.probeStart (tsh P w k)) = nth T.2.2.mask (runAt T.2.2.mask (SetTable.bits (tsh P w k) % (T.2.2.mask + 1)) (SetTable.bits (tsh P w k))) c → c ≤ N → N < fuel + c →
      (∀ (i : Nat) (q : Addr × List Str), L[i]? = some q → q.2 = k → ∃ c', c ≤ c' ∧ c' < N ∧ T.2.2.place.toList[i]? = some (way T.2.2.mask (tsh P w k) c')) →
      wpAny (model P w) A (setSearchFrom S (.ref x) (tsh P w k) true fuel st) Q E s := by
  have fit := R.fit
  have gave := R.gave
  have obj := R.obj
  have num := R.num
  have sz := R.tab.sz
  rw [List.length_map] at sz
  have ate : ∀ {i : Nat} {q : Addr × List Str}, L[i]? = some q → T.1[i]? = some (tsh P w q.2, Value.ref q.1) := fun e => R.at e
  have ent := R.ent
  have tab := R.tab
  have tps := R.tps
  clear R
  obtain ⟨es, ep, t⟩ := T
  dsimp only at n1 n2 n3 no fit gave num sz ate ent tab ⊢
  have dat : (sObj "set" (es, ep, t)).data = .set es ep t := rfl
  generalize eH : tsh P w k = H at n2 n3 no ⊢
  have shift : ∀ c q, nth t.mask (nth t.mask (runAt t.mask (SetTable.bits H % (t.mask + 1)) (SetTable.bits H)) c) q = nth t.mask (runAt t.mask (SetTable.bits H % (t.mask + 1)) (SetTable.bits H)) (c + q) := fun c q => (nth_add t.mask c _ q).symm
  have sj : ∀ c q, (nth t.mask (nth t.mask (runAt t.mask (SetTable.bits H % (t.mask + 1)) (SetTable.bits H)) c) q).j = way t.mask H (c + q) := fun c q => congrArg SetTable.Probe.j (shift c q)
  intro fuel
  induction fuel with
  | zero => intro c st _ h1 h2 _; omega
  | succ fuel ih =>
    intro c st e0 h1 h2 left
    rw [setSearchFrom_succ]
    refine wpAny_bind (wpAny_setState_of obj dat fit ?_)
    dsimp only
    refine wp_if_neg gave ?_
    try refine wpAny_bind (wpAny_pure ?_)
    have hash : ∀ {i : Nat} {q : Addr × List Str}, L[i]? = some q → (es[i]?.map (·.1)).getD 0 = tsh P w q.2 := fun e => by rw [ate e]; rfl
    have go := go_spec t tab.ris tab.dm (fun i => (es[i]?.map (·.1)).getD 0) H (10 * SetTable.turns t.mask) (N - c) _ (prb_dum t.mask c (runAt t.mask (SetTable.bits H % (t.mask + 1)) (SetTable.bits H)) rfl) (by omega)
      (fun q hq => by rw [sj]; exact n3 _ (by omega)) (by rw [sj, show c + (N - c) = N by omega]; exact n2)
    rcases go with ⟨q, i, hq, hi, hh, before, pr⟩ | ⟨before, pr⟩
    · -- something of this hash
      have pr' : t.probe (fun i => (es[i]?.map (·.1)).getD 0) H (st.getD (t.probeStart H)) = some (.candidate (way t.mask H (c + q)) i (nth t.mask (runAt t.mask (SetTable.bits H % (t.mask + 1)) (SetTable.bits H)) (c + (q + 1)))) := by
        rw [e0, ← sj, ← shift]; exact pr
      rw [pr']
      dsimp only
      rw [sj] at hi
      have il : i < L.length := by
        have z := (List.getElem?_eq_some_iff.mp hi).1
        rw [Array.length_toList] at z
        omega
      obtain ⟨p, hp⟩ : ∃ p, L[i]? = some p := ⟨_, List.getElem?_eq_getElem il⟩
      have pm : p ∈ L := List.mem_of_getElem? hp
      have go2 : wpAny (model P w) A (searchRest S (.ref x) H true fuel es t (way t.mask H (c + q)) i (nth t.mask (runAt t.mask (SetTable.bits H % (t.mask + 1)) (SetTable.bits H)) (c + (q + 1)))) Q E s := by
        unfold searchRest
        rw [ate hp]
        dsimp only
        refine wpAny_bind (wpAny_holding (wpAny_eqBool_tuple hu (tps p pm) hx ?_))
        refine wpAny_bind (wpAny_setState_of obj dat fit ?_)
        dsimp only
        by_cases same : p.2 = k
        · exact wp_if_pos (by simp [same]) (wpAny_pure (yes (List.mem_map.mpr ⟨p, pm, same⟩)))
        · refine wp_if_neg (by simp [same]) ?_
          try refine wpAny_bind (wpAny_pure ?_)
          rw [sameMem]
          dsimp only
          have sl : t.slot (way t.mask H (c + q)) = .live i := slot_live tab.ris hi
          simp only [if_true, sl, ate hp]
          refine wpAny_bind (wpAny_isSame_ref_self (wpAny_bind (wpAny_pure ?_)))
          simp only [if_true]
          refine wp_if_neg (by simp [same]) ?_
          refine ih (c + (q + 1)) _ rfl (by omega) (by omega) fun j r hj hr => ?_
          obtain ⟨c', a1, a2, a3⟩ := left j r hj hr
          refine ⟨c', ?_, a2, a3⟩
          rcases Nat.lt_trichotomy c' (c + q) with z | z | z
          · refine absurd ((hash hj).trans ((congrArg (tsh P w) hr).trans eH)) (before (c' - c) j (by omega) ?_)
            rw [sj, show c + (c' - c) = c' by omega]
            exact a3
          · rw [z] at a3
            have s1 := slot_live tab.ris a3
            rw [sl] at s1
            injection s1 with s1
            rw [← s1, hp] at hj
            exact absurd ((congrArg Prod.snd (Option.some.inj hj)).trans hr) same
          · omega
      by_cases hl : t.led = true
      · refine wp_if_neg (by simp [hl]) ?_
        try refine wpAny_bind (wpAny_pure ?_)
        exact go2
      · refine wp_if_pos (by simp [hl]) (wpAny_bind (tx_seen hx (fun y hy => ?_) ?_))
        · obtain ⟨e, he, ee⟩ := List.mem_map.mp hy
          have he : e ∈ es.toList := by
            have z : e ∈ es ∧ e.1 = H := by simpa using he
            simpa using z.1
          rw [ent] at he
          obtain ⟨r, hr, er⟩ := List.mem_map.mp he
          exact ⟨r.2, r.1, by rw [← ee, ← er], tps r hr⟩
        · refine wp_if_neg (by decide) ?_
          try refine wpAny_bind (wpAny_pure ?_)
          exact go2
    · -- the empty slot
      have pr' : t.probe (fun i => (es[i]?.map (·.1)).getD 0) H (st.getD (t.probeStart H)) = some (.empty (way t.mask H N) none) := by
        have z := sj c (N - c)
        rw [show c + (N - c) = N by omega] at z
        rw [e0, ← z]; exact pr
      rw [pr']
      dsimp only
      refine wpAny_pure (no fun hm => ?_)
      obtain ⟨r, hr, er⟩ := List.mem_map.mp hm
      obtain ⟨j, hj⟩ := List.getElem?_of_mem hr
      obtain ⟨c', a1, a2, a3⟩ := left j r hj er
      refine before (c' - c) j (by omega) ?_ ((hash hj).trans ((congrArg (tsh P w) er).trans eH))
      rw [sj, show c + (c' - c) = c' by omega]
      exact a3
theorem tt_search (R : TtS P w s.heap S L T) {x : Addr} {k : List Str} (hx : Tx P w s.heap k x) (hu : A.units < cLine) {Q : SetFound → Shared → Prop} (yes : k ∈ L.map (·.2) → Q (.there none) s)
    (no : ∀ N, k ∉ L.map (·.2) → way T.2.2.mask (tsh P w k) N ∉ T.2.2.place.toList → (∀ c, c < N → way T.2.2.mask (tsh P w k) c ∈ T.2.2.place.toList) → Q (.free (way T.2.2.mask (tsh P w k) N) false) s) :
    wpAny (model P w) A (setSearch S (.ref x) (tsh P w k) true) Q E s := by
  have rm := R.rm
  obtain ⟨N, n1, n2, n3⟩ := R.tab.first (by rw [List.length_map]; omega) (tsh P w k)
  have nb : N < 100000 := by
    have z : SetTable.turns T.2.2.mask ≤ 142 := by
      rcases R.tab.mok with e | e | e <;> rw [e] <;> decide
    omega
  unfold setSearch
  refine tt_hunt R hx hu n1 n2 n3 yes (fun z => no N z n2 n3) 100000 0 none rfl (Nat.zero_le _) nb fun i q e eq => ?_
  have hi : (L.map fun q => tsh P w q.2)[i]? = some (tsh P w k) := by rw [List.getElem?_map, e, ← eq]; rfl
  have sz := R.tab.sz
  rw [List.length_map] at sz
  have il : i < T.2.2.place.toList.length := by
    have := (List.getElem?_eq_some_iff.mp e).1
    rw [Array.length_toList]; omega
  have hj := List.getElem?_eq_getElem il
  obtain ⟨c, c1, c2⟩ := R.tab.before n2 hi hj
  exact ⟨c, Nat.zero_le _, c1, by rw [hj, c2]⟩
theorem tEnt_cut (p : Nat) (y : Addr × List Str) : tEnt P w (L.take p ++ y :: L.drop p) = (tEnt P w L).take p ++ (tsh P w y.2, Value.ref y.1) :: (tEnt P w L).drop p := by
  simp [tEnt]
theorem tEnt_get (L : Mbs) (i : Nat) : (tEnt P w L)[i]? = (L[i]?).map fun q => (tsh P w q.2, Value.ref q.1) := by simp [tEnt]
theorem fm_map {α β : Type} (f : α → β) (g : Nat → Option α) : ∀ l : List Nat, l.filterMap (fun i => (g i).map f) = (l.filterMap g).map f
  | [] => rfl
  | i :: l => by
    rw [List.filterMap_cons, List.filterMap_cons, fm_map f g l]
    cases g i <;> rfl
theorem fm_range {α : Type} : ∀ l : List α, (List.range l.length).filterMap (fun i => l[i]?) = l
  | [] => rfl
  | x :: l => by
    rw [List.length_cons, List.range_succ_eq_map, List.filterMap_cons]
    have z : (List.map Nat.succ (List.range l.length)).filterMap (fun i => (x :: l)[i]?) = (List.range l.length).filterMap (fun i => l[i]?) := by
      rw [List.filterMap_map]
      rfl
    rw [z, fm_range l]
    rfl
/-- the table laid anew -/
theorem tt_relay (obj : s.heap.get? S = some (sObj "set" T)) (ent : T.1.toList = tEnt P w L) (sz : T.2.2.place.size = L.length) (dm : T.2.2.dummies = #[]) (ml : L.length ≤ T.2.2.mask) (dif : (L.map (·.2)).Nodup) (tps : ∀ q ∈ L, Tx P w s.heap q.2 q.1)
    (mk : w.params.followText "set-order" = true ∨ T.2.2.led = true) (few : L.length < 64) {n M : Nat} (nM : SetTable.sizeAbove n - 1 = M) (hM : MaskOk M) (n128 : SetTable.sizeAbove n ≤ 128) (hn : L.length * 5 < M * 3) {Q : Unit → Shared → Prop}
    (q : ∀ h' L' T', Heap.SameBut S s.heap h' → TtS P w h' S L' T' → L'.Perm L → Q () { s with heap := h' }) : wpAny (model P w) A (setRelay S n) Q E s := by
  obtain ⟨es, ep, t⟩ := T
  dsimp only at ent sz dm ml mk
  have dat : (sObj "set" (es, ep, t)).data = .set es ep t := rfl
  have num : es.size = L.length := by
    have e := congrArg List.length ent
    rw [Array.length_toList] at e
    rw [e]
    exact List.length_map _
  have fit : t.fits es.size = true := by
    unfold SetTable.fits SetTable.fill
    rw [dm, Bool.and_eq_true, beq_iff_eq, decide_eq_true_eq]
    refine ⟨sz.trans num.symm, ?_⟩
    rw [sz]
    exact ml
  obtain ⟨t', ord, e, pm, tb, em, el, ep', ed⟩ := relaid_ok t (hs := es.map (·.1)) (wanted := n) nM hM (by rw [Array.size_map]; omega)
  rw [Array.size_map, num] at pm
  obtain ⟨L', eL⟩ : ∃ L', L' = ord.toList.filterMap fun i => L[i]? := ⟨_, rfl⟩
  have pL : L'.Perm L := by
    have z := pm.filterMap fun i => L[i]?
    rw [fm_range] at z
    rw [eL]; exact z
  have ent' : (ord.filterMap (es[·]?)).toList = tEnt P w L' := by
    rw [Array.toList_filterMap, eL]
    have z : (fun i : Nat => es[i]?) = fun i : Nat => (L[i]?).map fun (q : Addr × List Str) => (tsh P w q.2, Value.ref q.1) := by
      funext i
      rw [← Array.getElem?_toList, ent, tEnt_get]
    rw [z, fm_map]
    rfl
  have hs' : (ord.toList.map fun i => (es.map (·.1)).getD i 0) = L'.map fun q => tsh P w q.2 := by
    have all : ∀ i ∈ ord.toList, i < L.length := fun i hi => List.mem_range.mp (pm.mem_iff.mp hi)
    rw [eL]
    clear pL ent' eL tb e pm
    generalize ord.toList = l at all ⊢
    induction l with
    | nil => rfl
    | cons i l ih =>
      have hi := all i List.mem_cons_self
      have g : L[i]? = some L[i] := List.getElem?_eq_getElem hi
      have g2 : es[i]? = some (tsh P w (L[i]).2, Value.ref (L[i]).1) := by rw [← Array.getElem?_toList, ent, tEnt_get, g]; rfl
      rw [List.map_cons, List.filterMap_cons_some g, List.map_cons, ih fun j hj => all j (List.mem_cons_of_mem _ hj)]
      congr 1
      simp [Array.getD_eq_getD_getElem?, g2]
  rw [hs'] at tb
  have num' : (ord.filterMap (es[·]?)).size = es.size := by
    have z := congrArg List.length ent'
    rw [Array.length_toList] at z
    rw [z, num, ← pL.length_eq]
    exact List.length_map _
  rw [setRelay_eq]
  refine wpAny_bind (wpAny_setState_of obj dat fit ?_)
  dsimp only
  refine wp_if_neg (by rw [sizeLine_eq]; omega) ?_
  try refine wpAny_bind (wpAny_pure ?_)
  rw [e]
  dsimp only
  refine wpAny_bind ?_
  refine wp_if_neg (by rw [num']; simp) ?_
  try refine wpAny_bind (wpAny_pure ?_)
  refine wpAny_pure ?_
  dsimp only
  refine wpAny_storeSet_of obj dat ?_ (by rw [num', num, sizeLine_eq]; omega)
  have sb : Heap.SameBut S s.heap (s.heap.update S (Obj.putSet (ord.filterMap (es[·]?)) t')) := Heap.SameBut.update ..
  refine q _ L' (ord.filterMap (es[·]?), ep + 1, t') sb ⟨store_at obj dat, ent', tb, (pL.map (·.2)).nodup_iff.mpr dif, fun r hr => tx_off (tps r (pL.mem_iff.mp hr)) obj sb, ?_, ?_, by rw [pL.length_eq]; exact few⟩ pL
  · show _ ∨ t'.led = true
    rw [el]; exact mk
  · show L'.length * 5 < t'.mask * 3
    rw [pL.length_eq, em]; exact hn
end
end FD
/-! sets of tuples of texts: one put in, made of a list or a tuple -/
namespace FD
open PySem PySem.Spec L2 PyProof.Rows PySem.W PySem.Froz
theorem grown5 : SetTable.sizeAbove (SetTable.grown 5) = 32 := by decide +kernel
theorem grown19 : SetTable.sizeAbove (SetTable.grown 19) = 128 := by decide +kernel
section
variable {P : Program} {w : World} {A : Around} {E : Value → Shared → Prop} {s : Shared} {S : Addr} {L : Mbs} {T : SD}
theorem tt_add (R : TtS P w s.heap S L T) {x : Addr} {k : List Str} (hx : Tx P w s.heap k x) (hu : A.units < cLine) (room : L.length + 1 < 64) {Q : Bool → Shared → Prop}
    (q : ∀ b h' L' T', Heap.SameBut S s.heap h' → TtS P w h' S L' T' → (k ∈ L.map (·.2) → L' = L) → (k ∉ L.map (·.2) → L'.Perm ((x, k) :: L)) → Q b { s with heap := h' }) :
    wpAny (model P w) A (setAddHashed S (.ref x) (tsh P w k)) Q E s := by
  unfold setAddHashed
  refine wpAny_holding ?_
  rw [show (100000 : Nat) = 99999 + 1 from rfl, setAddHashedIn_succ]
  have num := R.num
  have rm := R.rm
  refine wpAny_bind (wpAny_setState_of R.obj rfl R.fit ?_)
  dsimp only
  refine wp_if_neg (by simp [byScan, Value.scannable]) ?_
  try refine wpAny_bind (wpAny_pure ?_)
  refine wpAny_bind (tt_search R hx hu (fun hm => ?_) fun N hm n2 n3 => ?_)
  · dsimp only
    exact wpAny_pure (q false s.heap L T (Heap.SameBut.refl S s.heap) R (fun _ => rfl) fun z => absurd hm z)
  dsimp only
  refine wpAny_bind (wpAny_setState_of R.obj rfl R.fit ?_)
  dsimp only
  obtain ⟨p1, p2, tb, p4, p5, p6, p7, p8, p9⟩ := R.tab.put n2 n3
  have mk := R.mar
  have obj := R.obj
  have ent := R.ent
  have dif := R.dif
  have tps := R.tps
  have mok := R.tab.mok
  clear R
  obtain ⟨es, ep, t⟩ := T
  dsimp only at p1 p2 tb p4 p5 p6 p7 p8 p9 mk ent num rm mok n2 n3 ⊢
  have dat : (sObj "set" (es, ep, t)).data = .set es ep t := rfl
  generalize hP : t.put (way t.mask (tsh P w k) N) = PT at p1 tb p4 p5 p6 p7 p8 p9 ⊢
  obtain ⟨t1, at1⟩ := PT
  dsimp only at p1 tb p4 p5 p6 p7 p8 p9 ⊢
  subst p1
  suffices fin : ∀ t2 : SetTable, TabOk t2 ((L.map fun q => tsh P w q.2).take (SetTable.below t.place (way t.mask (tsh P w k) N)) ++ tsh P w k :: (L.map fun q => tsh P w q.2).drop (SetTable.below t.place (way t.mask (tsh P w k) N))) → t2.mask = t.mask → t2.led = t.led → t2.fill = (L.map fun q => tsh P w q.2).length + 1 →
      wpAny (model P w) A (do
        storeSet S (SetTable.insertAt es (SetTable.below t.place (way t.mask (tsh P w k) N)) (tsh P w k, Value.ref x)) t2
        if (!false && t2.tooFull) = true then setRelay S (SetTable.grown (es.size + 1))
        return true) Q E s by
    by_cases pl : t1.plain = true
    · first
        | (refine wpAny_bind ?_; refine wp_if_pos pl ?_; refine tx_byv hx fun c => ?_)
        | refine wp_if_pos pl (wpAny_bind (tx_byv hx fun c => ?_))
      cases c with
      | true => exact fin t1 tb p4 p5 p9
      | false => exact fin { t1 with plain := false } ⟨tb.ris, tb.dm, tb.sz, tb.mok, tb.bd, tb.reach⟩ p4 p5 p9
    · first
        | (refine wpAny_bind ?_; refine wp_if_neg pl ?_; refine wpAny_pure ?_)
        | refine wp_if_neg pl (wpAny_bind (wpAny_pure ?_))
      exact fin t1 tb p4 p5 p9
  clear tb p4 p5 p6 p7 p8 p9 hP t1
  intro t2 tb p4 p5 p9
  generalize eP : SetTable.below t.place (way t.mask (tsh P w k) N) = p at p2 tb ⊢
  have ent1 : (SetTable.insertAt es p (tsh P w k, Value.ref x)).toList = tEnt P w (L.take p ++ (x, k) :: L.drop p) := by
    rw [SetTable.toList_insertAt, tEnt_cut, ent]
  have pm := put_perm L p (x, k)
  have l1 : (L.take p ++ (x, k) :: L.drop p).length = L.length + 1 := pm.length_eq
  have hs1 : (L.map fun q => tsh P w q.2).take p ++ tsh P w k :: (L.map fun q => tsh P w q.2).drop p = (L.take p ++ (x, k) :: L.drop p).map fun q => tsh P w q.2 := by simp
  rw [hs1] at tb
  have dif1 : ((L.take p ++ (x, k) :: L.drop p).map (·.2)).Nodup := (pm.map (·.2)).nodup_iff.mpr (List.nodup_cons.mpr ⟨hm, dif⟩)
  generalize SetTable.insertAt es p (tsh P w k, Value.ref x) = es1 at ent1 ⊢
  generalize L.take p ++ (x, k) :: L.drop p = L1 at pm l1 tb dif1 ent1
  have num1 : es1.size = L.length + 1 := by
    have z := congrArg List.length ent1
    rw [Array.length_toList] at z
    rw [z, ← l1]
    exact List.length_map _
  refine wpAny_bind (wpAny_storeSet_of obj dat ?_ (by rw [num1, sizeLine_eq]; omega))
  have sb : Heap.SameBut S s.heap (s.heap.update S (Obj.putSet es1 t2)) := Heap.SameBut.update ..
  have obj1 : (s.heap.update S (Obj.putSet es1 t2)).get? S = some (sObj "set" (es1, ep + 1, t2)) := store_at obj dat
  generalize s.heap.update S (Obj.putSet es1 t2) = h1 at sb obj1 ⊢
  have tps1 : ∀ r ∈ L1, Tx P w h1 r.2 r.1 := fun r hr => by
    rcases List.mem_cons.mp (pm.mem_iff.mp hr) with e | hr
    · rw [e]; exact tx_off hx obj sb
    · exact tx_off (tps r hr) obj sb
  have mk1 : w.params.followText "set-order" = true ∨ t2.led = true := by rw [p5]; exact mk
  have fill : t2.tooFull = decide ((L.length + 1) * 5 ≥ t.mask * 3) := by
    unfold SetTable.tooFull
    rw [p9, p4, List.length_map]
  by_cases full : t2.tooFull = true
  · first
      | (refine wpAny_bind ?_; refine wp_if_pos (by simp [full]) ?_)
      | (refine wp_if_pos (by simp [full]) ?_; refine wpAny_bind ?_)
    have big : (L.length + 1) * 5 ≥ t.mask * 3 := by
      rw [fill] at full
      exact of_decide_eq_true full
    rw [num]
    have sz1 : t2.place.size = L1.length := by
      have z := tb.sz
      rw [List.length_map] at z
      exact z
    have go : ∀ M, SetTable.sizeAbove (SetTable.grown (L.length + 1)) = M + 1 → MaskOk M → M + 1 ≤ 128 → (L.length + 1) * 5 < M * 3 → L.length + 1 ≤ t.mask →
        wpAny (model P w) A (setRelay S (SetTable.grown (L.length + 1))) (fun _ s' => wpAny (model P w) A (pure true) Q E s') E { s with heap := h1 } := fun M g1 g2 g3 g4 g5 => by
      refine tt_relay (s := { s with heap := h1 }) (T := (es1, ep + 1, t2)) (L := L1) (M := M) obj1 ent1 sz1 tb.dm (by show L1.length ≤ t2.mask; rw [l1, p4]; exact g5) dif1 tps1 mk1 (by rw [l1]; exact room) (by rw [g1]; rfl) g2 (by rw [g1]; exact g3) (by rw [l1]; exact g4) ?_
      intro h2 L2 T2 sb2 R2 pm2
      exact wpAny_pure (q true h2 L2 T2 (sb.trans sb2) R2 (fun z => absurd z hm) fun _ => pm2.trans pm)
    rcases mok with e | e | e
    · have z : L.length = 4 := by rw [e] at big rm; omega
      exact go 31 (by rw [z, grown5]) (.inr (.inl rfl)) (by decide) (by omega) (by omega)
    · have z : L.length = 18 := by rw [e] at big rm; omega
      exact go 127 (by rw [z, grown19]) (.inr (.inr rfl)) (by decide) (by omega) (by omega)
    · exfalso; rw [e] at big; omega
  · first
      | refine wp_if_neg (by simp [full]) ?_
      | (refine wpAny_bind ?_; refine wp_if_neg (by simp [full]) ?_; refine wpAny_pure ?_)
    refine wpAny_pure (q true h1 L1 (es1, ep + 1, t2) sb ⟨obj1, ent1, tb, dif1, tps1, mk1, ?_, by rw [l1]; exact room⟩ (fun z => absurd z hm) fun _ => pm)
    rw [fill, decide_eq_true_eq] at full
    show L1.length * 5 < t2.mask * 3
    rw [l1, p4]
    omega
/-- what was put in of the first i -/
structure Ins (ks : Mbs) (i : Nat) (L : Mbs) : Prop where
  sub : ∀ q ∈ L, q ∈ ks.take i
  all : ∀ q ∈ ks.take i, q.2 ∈ L.map (·.2)
  len : L.length ≤ i
theorem Ins.next {ks L L' : Mbs} {i : Nat} {q : Addr × List Str} (g : Ins ks i L) (e : ks[i]? = some q) (h1 : q.2 ∈ L.map (·.2) → L' = L) (h2 : q.2 ∉ L.map (·.2) → L'.Perm (q :: L)) : Ins ks (i + 1) L' := by
  have e2 : ks.take (i + 1) = ks.take i ++ [q] := by rw [List.take_add_one, e]; rfl
  by_cases c : q.2 ∈ L.map (·.2)
  · rw [h1 c]
    refine ⟨fun r hr => ?_, fun r hr => ?_, Nat.le_succ_of_le g.len⟩
    · rw [e2]; exact List.mem_append_left _ (g.sub r hr)
    · rw [e2, List.mem_append, List.mem_singleton] at hr
      rcases hr with hr | hr
      · exact g.all r hr
      · rw [hr]; exact c
  · have pm := h2 c
    refine ⟨fun r hr => ?_, fun r hr => ?_, by rw [pm.length_eq]; exact Nat.succ_le_succ g.len⟩
    · rw [e2, List.mem_append, List.mem_singleton]
      exact (List.mem_cons.mp (pm.mem_iff.mp hr)).elim .inr fun z => .inl (g.sub r z)
    · rw [(pm.map (·.2)).mem_iff, List.map_cons, List.mem_cons]
      rw [e2, List.mem_append, List.mem_singleton] at hr
      exact hr.elim (fun z => .inr (g.all r z)) fun z => .inl (by rw [z])
/-- the loop that fills the set -/
theorem tt_fill {I : Addr} {fp wr : List Addr} {G : Array GenState → Array GenState → Prop} {n : Nat} {Pv : Nat → Value → Prop} {St : Nat → Shared → Prop} {R : Result → Shared → Prop}
    (W : WalksS P w A.in1 I fp wr G n Pv St) (S : Addr) (hSf : S ∉ fp) (ks : Mbs) (hn : n = ks.length) (hb : ks.length < 64) (hval : ∀ i v, Pv i v → ∃ q, ks[i]? = some q ∧ v = .ref q.1) (h0 : Heap)
    (tp : ∀ q ∈ ks, Tx P w h0 q.2 q.1) (S0 : h0.get? S = none) (w0 : ∀ b ∈ wr, h0.get? b = none) (hu : A.in1.units < cLine) :
    ∀ (k i : Nat) (sh : Shared), n - i = k → i ≤ n → St i sh → (∀ b o, h0.get? b = some o → sh.heap.get? b = some o) → (∃ L T, TtS P w sh.heap S L T ∧ Ins ks i L) →
      (∀ s' L T, Moved (S :: wr) G sh s' → TtS P w s'.heap S L T → Ins ks n L → (∀ b o, h0.get? b = some o → s'.heap.get? b = some o) → R (.ok (.ret .none)) s') →
      codeAny (model P w) A (.builtin "set.update.loop" ⟨[.ref S, .ref I], []⟩) R sh := by
  have nw : S ∉ wr := fun h => hSf (W.sub _ h)
  have up : ∀ b ∈ wr, b ∈ S :: wr := fun b hb => List.mem_cons_of_mem _ hb
  have old : ∀ {a b : Shared}, Moved wr G a b → (∀ c o, h0.get? c = some o → a.heap.get? c = some o) → ∀ c o, h0.get? c = some o → b.heap.get? c = some o := fun mv k c o e =>
    mv.heap c o (fun z => by rw [w0 c z] at e; cases e) (k c o e)
  have same : ∀ {a b : Shared} {L : Mbs} {T : SD} {i : Nat}, Moved wr G a b → (∀ c o, h0.get? c = some o → b.heap.get? c = some o) → TtS P w a.heap S L T → Ins ks i L → TtS P w b.heap S L T := fun mv k R g =>
    ⟨mv.heap S _ nw R.obj, R.ent, R.tab, R.dif, fun q hq => tx_keep (tp q (List.mem_of_mem_take (g.sub q hq))) k, R.mar, R.rm, R.few⟩
  intro k
  induction k with
  | zero =>
    intro i sh ek hi st0 kp ⟨L, T, hT, g⟩ hR
    obtain rfl : i = n := by omega
    refine codeAny_builtin F.entry_set_update_loop ?_
    rw [Around.under_plainId F.plain_set_update_loop _]
    show wpAny _ A.in1 (pyNext (.ref I) >>= _) _ _ sh
    refine wpAny_bind (W.done sh _ _ st0 fun s' mv => ?_)
    show wpAny _ A.in1 (ret Value.none) _ _ s'
    have kp' := old mv kp
    exact wpAny_pure (hR s' L T (mv.mono up) (same mv kp' hT g) g kp')
  | succ k ih =>
    intro i sh ek hi st0 kp ⟨L, T, hT, g⟩ hR
    have lt0 : i < n := by omega
    refine codeAny_builtin F.entry_set_update_loop ?_
    rw [Around.under_plainId F.plain_set_update_loop _]
    show wpAny _ A.in1 (pyNext (.ref I) >>= _) _ _ sh
    refine wpAny_bind (W.item i sh _ _ lt0 st0 fun v s1 pv st1 mv => ?_)
    obtain ⟨q, hq, rfl⟩ := hval i v pv
    have kp1 := old mv kp
    have hT1 := same mv kp1 hT g
    have hx : Tx P w s1.heap q.2 q.1 := tx_keep (tp q (List.mem_of_getElem? hq)) kp1
    show wpAny _ A.in1 (holding [Value.ref q.1] (setAdd S (.ref q.1)) >>= _) _ _ s1
    refine wpAny_bind (wpAny_holding ?_)
    unfold setAdd
    refine wpAny_holding ?_
    refine wpAny_bind (wpAny_pyHash_tuple hu hx ?_)
    have gl := g.len
    refine tt_add (s := { s1 with toks := s1.toks + (q.2.length + 1) }) hT1 hx hu (by omega) fun b g1 L1 T1 sb hT2 c1 c2 => ?_
    have kp2 : ∀ c o, h0.get? c = some o → g1.get? c = some o := fun c o e => (sb.2 c (fun z => by rw [z, S0] at e; cases e)).trans (kp1 c o e)
    refine wpAny_pure ⟨plainId_quiet F.plain_set_update_loop _, ih (i + 1) _ (by omega) lt0 (W.frame _ s1 _ _ st1 (Nat.le_add_right _ _) fun b hb o z => ?_) kp2 ⟨L1, T1, hT2, g.next hq c1 c2⟩ fun s2 L2 T2 mv2 hT3 g3 kp3 => ?_⟩
    · rw [sb.2 b (fun z : b = S => hSf (by rw [← z]; exact hb))]; exact z
    · refine hR s2 L2 T2 (Moved.trans W.gtrans ((mv.mono up).then_heap (Nat.le_add_right _ _) fun b o hb z => ?_) mv2) hT3 g3 kp3
      rw [sb.2 b (fun z : b = S => hb (by rw [z]; exact List.mem_cons_self))]; exact z
theorem tt_new {h : Heap} (g : h.get? S = some { cls := .type "set", dict := none, data := .set #[] 0 (.fresh 0 0 (!w.params.followText "set-order")) }) : TtS P w h S [] (#[], 0, .fresh 0 0 (!w.params.followText "set-order")) where
  obj := g
  ent := rfl
  tab := ⟨List.Pairwise.nil, rfl, rfl, .inl rfl, fun x hx => absurd hx (by simp [SetTable.fresh]), fun i h j e => by simp at e⟩
  dif := List.nodup_nil
  tps := fun q hq => absurd hq (by simp)
  mar := by
    cases z : w.params.followText "set-order"
    · exact .inr rfl
    · exact .inl rfl
  rm := by show 0 * 5 < 7 * 3; decide
  few := by decide
set_option maxHeartbeats 24000000 in
/-- set(xs), xs a list of tuples of texts -/
theorem call_setTl {l : Addr} {its : Array Value} (ks : Mbs) {Q : Value → Shared → Prop} (hh : A.handled = none) (hl : s.heap.IsList l its) (hit : its.toList = ks.map fun q => Value.ref q.1) (tp : ∀ q ∈ ks, Tx P w s.heap q.2 q.1) (hb : ks.length < 64) (hu : A.units + 3 < cLine)
    (q : ∀ (h' : Heap) (tk : Nat) L T, TtS P w h' s.heap.objs.size L T → Ins ks ks.length L → (∀ b o, s.heap.get? b = some o → h'.get? b = some o) → Q (.ref s.heap.objs.size) { s with heap := h', toks := tk }) :
    wpAny (model P w) A (call (.type "set") [.ref l]) Q E s := by
  have eN : its.size = ks.length := by
    have z := congrArg List.length hit
    rw [Array.length_toList, List.length_map] at z
    exact z
  have hval : ∀ (i : Nat) (v : Value), its[i]? = some v → ∃ q, ks[i]? = some q ∧ v = .ref q.1 := fun i v hv => by
    have z : its.toList[i]? = some v := by rw [Array.getElem?_toList]; exact hv
    rw [hit, List.getElem?_map] at z
    cases e : ks[i]? with
    | none => rw [e] at z; cases z
    | some r => rw [e] at z; exact ⟨r, rfl, (Option.some.inj z).symm⟩
  have no : ∀ b, s.heap.objs.size ≤ b → s.heap.get? b = none := fun b hb => by
    cases e : s.heap.get? b with
    | none => rfl
    | some o => exact absurd (Heap.lt_size e) (Nat.not_lt.mpr hb)
  obtain ⟨c, tl, hmro⟩ := F.called_set.mro
  have hmade := F.called_set.made
  have hsub := F.called_set.sub
  refine wpAny_call (codeAny_of_tree ?_)
  show wpAny _ _ (callAny (.type "set") _) _ _ _
  refine wpAny_pure ⟨Code.quiet_builtin _ (by decide +kernel), codeAny_builtin F.entry_type_call ?_⟩
  rw [Around.under_plain (weight_type_call_type "set" [.ref l] []) rfl]
  have h1 := F.called_set.notType
  have h2 := F.called_set.canCreate
  have hct := F.typeCall_set_1 (.ref l)
  repeat (any_goals (first | assumption | wp_step))
  generalize eS : ({ cls := .type "set", dict := none, data := .set #[] 0 (.fresh 0 0 (!w.params.followText "set-order")) } : Obj) = o0
  refine codeAny_mono (code_set_led1 (.ref l) (E := E) (Q₁ := fun obj t => obj = .ref s.heap.objs.size ∧ t = { s with heap := s.heap.push o0 }) ⟨rfl, by rw [eS]⟩) fun r t hr => ?_
  cases r with
  | error e => exact hr
  | ok fl =>
    cases fl with
    | ret obj =>
      obtain ⟨rfl, rfl⟩ := hr
      have hS : (s.heap.push o0).get? s.heap.objs.size = some o0 := Heap.get?_push_size _ (by rw [← eS]; rfl)
      have hT : Shared.TypeIs { s with heap := s.heap.push o0 } (.ref s.heap.objs.size) "set" := ⟨_, hS, by rw [← eS]⟩
      have hli := F.called_set.init.lookup
      have hbi := F.called_set.init.bind (.ref s.heap.objs.size)
      repeat (any_goals (first | assumption | wp_step))
      refine codeAny_mono (codeAny_call_builtin (R := wants (fun r s₂ => r = .none ∧ ∃ h' tk L T, s₂ = { s with heap := h', toks := tk } ∧ TtS P w h' s.heap.objs.size L T ∧ Ins ks ks.length L ∧
          (∀ b o, s.heap.get? b = some o → h'.get? b = some o)) E) F.called_set.init.plain F.entry_set_init (check_set_init_1 hT ?_)) fun r₂ s₂ hr₂ => ?_
      · obtain ⟨ol, hol, hcl, nl, hdl⟩ := hl
        obtain ⟨ocls, odict, odata, oslots⟩ := ol
        simp only at hcl hdl
        subst hcl; subst hdl
        have hol' : (s.heap.push o0).get? l = some { cls := .type "list", dict := odict, data := .seq its nl, slots := oslots } := Heap.get?_push_of_some _ hol
        have hsls := F.sub_list_set
        have hslf := F.sub_list_frozenset
        have hne : (Value.type "list" == Value.type "dict") = false := by decide
        have tl1 : (s.heap.push o0).IsList l its := ⟨_, hol', rfl, nl, rfl⟩
        subst eS
        unfold Builtin.«set.__init__» noKeywords Builtin.Frozenset.updateFrom
        generalize hPI : pyIter = PI
        wp_walk
        subst hPI
        refine wpAny_pyIter_list tl1 ?_
        refine wpAny_bind (wpAny_runValue ?_)
        have ltl : l < s.heap.objs.size := Heap.lt_size hol
        have hh3 : A.in1.in1.in1.handled = none := by simp [hh]
        have eP : ∀ o : Obj, (s.heap.push o).objs.size = s.heap.objs.size + 1 := fun o => Heap.size_push ..
        have neI : l ≠ (s.heap.push { cls := .type "set", dict := none, data := .set #[] 0 (.fresh 0 0 (!w.params.followText "set-order")) }).objs.size := by rw [eP]; exact Nat.ne_of_lt (Nat.lt_succ_of_lt ltl)
        have outS : s.heap.objs.size ∉ [(s.heap.push { cls := .type "set", dict := none, data := .set #[] 0 (.fresh 0 0 (!w.params.followText "set-order")) }).objs.size, l] := by
          rw [eP]; simp only [List.mem_cons, List.not_mem_nil, or_false, not_or]
          exact ⟨Nat.ne_of_lt (Nat.lt_succ_self _), Nat.ne_of_gt ltl⟩
        refine tt_fill ((Walks.list hh3 _ l neI its).toS) s.heap.objs.size outS ks eN hb hval s.heap tp (no _ (Nat.le_refl _)) (fun b hb => no b (by rw [List.mem_singleton.mp hb, eP]; exact Nat.le_succ _)) hu (its.size - 0) 0 _ (by omega) (Nat.zero_le _)
          ⟨⟨_, Heap.get?_push_size _ rfl, rfl, rfl⟩, (tl1.push _)⟩ (fun b o e => Heap.get?_push_of_some _ (Heap.get?_push_of_some _ e)) ?_ ?_
        · exact ⟨[], _, tt_new (Heap.get?_push_of_some _ hS), fun q hq => absurd hq (by simp), fun q hq => absurd hq (by simp), Nat.zero_le _⟩
        · intro s' L T mv hT' g' k'
          obtain ⟨h', gg, d', tk', os'⟩ := s'
          have eg : gg = s.gens := mv.gens
          have ed : d' = s.drawn := mv.drawn
          have eo : os' = s.os := mv.os
          subst eg; subst ed; subst eo
          show wpAny _ _ _ _ _ _
          refine wpAny_pure ?_
          show wpAny _ _ (ret Value.none) _ _ _
          rw [eN] at g'
          exact wpAny_pure ⟨rfl, h', tk', L, T, rfl, hT', g', k'⟩
      · cases r₂ with
        | error e => exact hr₂
        | ok fl₂ =>
          cases fl₂ with
          | ret r =>
            obtain ⟨rfl, h', tk, L, T, rfl, a1, a2, a3⟩ := hr₂
            repeat (any_goals (first | assumption | wp_step))
            exact q _ _ _ _ a1 a2 a3
          | _ => exact hr₂.elim
    | _ => exact hr.elim
set_option maxHeartbeats 24000000 in
/-- set(xs), xs a tuple of tuples of texts -/
theorem call_setTt {l : Addr} {its : Array Value} (ks : Mbs) {Q : Value → Shared → Prop} (hh : A.handled = none) (hl : s.heap.IsTuple l its) (hit : its.toList = ks.map fun q => Value.ref q.1) (tp : ∀ q ∈ ks, Tx P w s.heap q.2 q.1) (hb : ks.length < 64) (hu : A.units + 3 < cLine)
    (q : ∀ (h' : Heap) (tk : Nat) L T, TtS P w h' s.heap.objs.size L T → Ins ks ks.length L → (∀ b o, s.heap.get? b = some o → h'.get? b = some o) → Q (.ref s.heap.objs.size) { s with heap := h', toks := tk }) :
    wpAny (model P w) A (call (.type "set") [.ref l]) Q E s := by
  have eN : its.size = ks.length := by
    have z := congrArg List.length hit
    rw [Array.length_toList, List.length_map] at z
    exact z
  have hval : ∀ (i : Nat) (v : Value), its[i]? = some v → ∃ q, ks[i]? = some q ∧ v = .ref q.1 := fun i v hv => by
    have z : its.toList[i]? = some v := by rw [Array.getElem?_toList]; exact hv
    rw [hit, List.getElem?_map] at z
    cases e : ks[i]? with
    | none => rw [e] at z; cases z
    | some r => rw [e] at z; exact ⟨r, rfl, (Option.some.inj z).symm⟩
  have no : ∀ b, s.heap.objs.size ≤ b → s.heap.get? b = none := fun b hb => by
    cases e : s.heap.get? b with
    | none => rfl
    | some o => exact absurd (Heap.lt_size e) (Nat.not_lt.mpr hb)
  obtain ⟨c, tl, hmro⟩ := F.called_set.mro
  have hmade := F.called_set.made
  have hsub := F.called_set.sub
  refine wpAny_call (codeAny_of_tree ?_)
  show wpAny _ _ (callAny (.type "set") _) _ _ _
  refine wpAny_pure ⟨Code.quiet_builtin _ (by decide +kernel), codeAny_builtin F.entry_type_call ?_⟩
  rw [Around.under_plain (weight_type_call_type "set" [.ref l] []) rfl]
  have h1 := F.called_set.notType
  have h2 := F.called_set.canCreate
  have hct := F.typeCall_set_1 (.ref l)
  repeat (any_goals (first | assumption | wp_step))
  generalize eS : ({ cls := .type "set", dict := none, data := .set #[] 0 (.fresh 0 0 (!w.params.followText "set-order")) } : Obj) = o0
  refine codeAny_mono (code_set_led1 (.ref l) (E := E) (Q₁ := fun obj t => obj = .ref s.heap.objs.size ∧ t = { s with heap := s.heap.push o0 }) ⟨rfl, by rw [eS]⟩) fun r t hr => ?_
  cases r with
  | error e => exact hr
  | ok fl =>
    cases fl with
    | ret obj =>
      obtain ⟨rfl, rfl⟩ := hr
      have hS : (s.heap.push o0).get? s.heap.objs.size = some o0 := Heap.get?_push_size _ (by rw [← eS]; rfl)
      have hT : Shared.TypeIs { s with heap := s.heap.push o0 } (.ref s.heap.objs.size) "set" := ⟨_, hS, by rw [← eS]⟩
      have hli := F.called_set.init.lookup
      have hbi := F.called_set.init.bind (.ref s.heap.objs.size)
      repeat (any_goals (first | assumption | wp_step))
      refine codeAny_mono (codeAny_call_builtin (R := wants (fun r s₂ => r = .none ∧ ∃ h' tk L T, s₂ = { s with heap := h', toks := tk } ∧ TtS P w h' s.heap.objs.size L T ∧ Ins ks ks.length L ∧
          (∀ b o, s.heap.get? b = some o → h'.get? b = some o)) E) F.called_set.init.plain F.entry_set_init (check_set_init_1 hT ?_)) fun r₂ s₂ hr₂ => ?_
      · obtain ⟨ol, hol, hcl, nl, hdl⟩ := hl
        obtain ⟨ocls, odict, odata, oslots⟩ := ol
        simp only at hcl hdl
        subst hcl; subst hdl
        have hol' : (s.heap.push o0).get? l = some { cls := .type "tuple", dict := odict, data := .seq its nl, slots := oslots } := Heap.get?_push_of_some _ hol
        have hsls := F.sub_tuple_set
        have hslf := F.sub_tuple_frozenset
        have hne : (Value.type "tuple" == Value.type "dict") = false := by decide
        have tl1 : (s.heap.push o0).IsTuple l its := ⟨_, hol', rfl, nl, rfl⟩
        subst eS
        unfold Builtin.«set.__init__» noKeywords Builtin.Frozenset.updateFrom
        generalize hPI : pyIter = PI
        wp_walk
        subst hPI
        refine wpAny_pyIter_tuple tl1 ?_
        refine wpAny_bind (wpAny_runValue ?_)
        have ltl : l < s.heap.objs.size := Heap.lt_size hol
        have hh3 : A.in1.in1.in1.handled = none := by simp [hh]
        have eP : ∀ o : Obj, (s.heap.push o).objs.size = s.heap.objs.size + 1 := fun o => Heap.size_push ..
        have neI : l ≠ (s.heap.push { cls := .type "set", dict := none, data := .set #[] 0 (.fresh 0 0 (!w.params.followText "set-order")) }).objs.size := by rw [eP]; exact Nat.ne_of_lt (Nat.lt_succ_of_lt ltl)
        have outS : s.heap.objs.size ∉ [(s.heap.push { cls := .type "set", dict := none, data := .set #[] 0 (.fresh 0 0 (!w.params.followText "set-order")) }).objs.size, l] := by
          rw [eP]; simp only [List.mem_cons, List.not_mem_nil, or_false, not_or]
          exact ⟨Nat.ne_of_lt (Nat.lt_succ_self _), Nat.ne_of_gt ltl⟩
        refine tt_fill ((Walks.tuple hh3 _ l neI its).toS) s.heap.objs.size outS ks eN hb hval s.heap tp (no _ (Nat.le_refl _)) (fun b hb => no b (by rw [List.mem_singleton.mp hb, eP]; exact Nat.le_succ _)) hu (its.size - 0) 0 _ (by omega) (Nat.zero_le _)
          ⟨⟨_, Heap.get?_push_size _ rfl, rfl, rfl⟩, (tl1.push _)⟩ (fun b o e => Heap.get?_push_of_some _ (Heap.get?_push_of_some _ e)) ?_ ?_
        · exact ⟨[], _, tt_new (Heap.get?_push_of_some _ hS), fun q hq => absurd hq (by simp), fun q hq => absurd hq (by simp), Nat.zero_le _⟩
        · intro s' L T mv hT' g' k'
          obtain ⟨h', gg, d', tk', os'⟩ := s'
          have eg : gg = s.gens := mv.gens
          have ed : d' = s.drawn := mv.drawn
          have eo : os' = s.os := mv.os
          subst eg; subst ed; subst eo
          show wpAny _ _ _ _ _ _
          refine wpAny_pure ?_
          show wpAny _ _ (ret Value.none) _ _ _
          rw [eN] at g'
          exact wpAny_pure ⟨rfl, h', tk', L, T, rfl, hT', g', k'⟩
      · cases r₂ with
        | error e => exact hr₂
        | ok fl₂ =>
          cases fl₂ with
          | ret r =>
            obtain ⟨rfl, h', tk, L, T, rfl, a1, a2, a3⟩ := hr₂
            repeat (any_goals (first | assumption | wp_step))
            exact q _ _ _ _ a1 a2 a3
          | _ => exact hr₂.elim
    | _ => exact hr.elim
end
end FD
/-! tuples of texts sorted: by themselves, by their lengths -/
namespace FD
open PySem PySem.Spec L2 PyProof.Rows PySem.W PySem.Froz
/-- a row of texts as data -/
def rowD (k : List Str) : PyData := .tuple (k.map .str)
theorem reads_strs {h : Heap} {P : Program} {w : World} : ∀ {k : List Str} {vs : List Value}, ItemsAre (strKind P w) k vs → PySem.ReadsAll h vs (k.map .str) []
  | [], _, .nil => .nil
  | z :: k, _, .cons (v := v) q t => by
    have q : Value.isStrOf z v = true := q
    cases v with
    | str y u =>
      have e : y = z := by simpa [Value.isStrOf] using q
      subst e
      exact .cons (as := []) (bs := []) (.str y u) (reads_strs t)
    | _ => simp [Value.isStrOf] at q
theorem tx_reads {h : Heap} {P : Program} {w : World} {k : List Str} {b : Addr} (x : Tx P w h k b) : PySem.Reads h (.ref b) (rowD k) [] := by
  obtain ⟨u, its, m, g, c, dt, is⟩ := x
  exact .tuple g c dt (reads_strs is)
theorem alike_strs : ∀ k l : List Str, alikeAll (k.map .str) (l.map .str) = true
  | [], [] => by simp [alikeAll]
  | [], _ :: _ => by simp [alikeAll]
  | _ :: _, [] => by simp [alikeAll]
  | x :: k, y :: l => by
    have := alike_strs k l
    simp [alikeAll, alike, this]
theorem alike_rows (k l : List Str) : alike (rowD k) (rowD l) = true := by
  have := alike_strs k l
  simpa [rowD, alike] using this
theorem depth_strs : ∀ k : List Str, PyData.depthAll (k.map .str) = 0
  | [] => by simp [PyData.depthAll]
  | x :: k => by simp [PyData.depthAll, PyData.depth, depth_strs k]
theorem depth_row (k : List Str) : (rowD k).depth = 1 := by
  simp [rowD, PyData.depth, depth_strs]
/-- the order of rows as tuples -/
def leR (k l : List Str) : Bool := dataLe false rowD k l
def refsOf (L : Mbs) : List Value := L.map fun q => Value.ref q.1
section
variable {P : Program} {w : World} {A : Around} {E : Value → Shared → Prop} {s : Shared}
theorem rows_each {h : Heap} : ∀ {L : Mbs}, (∀ q ∈ L, Tx P w h q.2 q.1) → EachIs (fun v d => ∃ as, PySem.Reads h v d as) (refsOf L) (L.map fun q => rowD q.2)
  | [], _ => .nil
  | q :: L, t => .cons ⟨[], tx_reads (t q List.mem_cons_self)⟩ (rows_each fun r hr => t r (List.mem_cons_of_mem _ hr))
theorem rows_each2 {h : Heap} : ∀ {L : Mbs}, (∀ q ∈ L, Tx P w h q.2 q.1) → EachIs (fun v (q : Addr × List Str) => ∃ as, PySem.Reads h v (rowD q.2) as) (refsOf L) L
  | [], _ => .nil
  | q :: L, t => .cons ⟨[], tx_reads (t q List.mem_cons_self)⟩ (rows_each2 fun r hr => t r (List.mem_cons_of_mem _ hr))
theorem refs_each : ∀ L : Mbs, EachIs (fun v (q : Addr × List Str) => v = Value.ref q.1) (refsOf L) L
  | [] => .nil
  | _ :: L => .cons rfl (refs_each L)
theorem each_refs : ∀ {L : Mbs} {vs : List Value}, EachIs (fun v (q : Addr × List Str) => v = Value.ref q.1) vs L → vs = refsOf L
  | [], _, .nil => rfl
  | q :: L, _, .cons h t => by rw [each_refs t, h]; rfl
theorem rows_alike (L : Mbs) : AllAlike (L.map fun q => rowD q.2) := fun d hd d' hd' => by
  obtain ⟨q, _, rfl⟩ := List.mem_map.mp hd
  obtain ⟨r, _, rfl⟩ := List.mem_map.mp hd'
  exact alike_rows _ _
theorem firsts_go : ∀ (L : Mbs) {Q : List (Option Value) → Shared → Prop}, (∀ q ∈ L, Tx P w s.heap q.2 q.1) → (∀ fs : List (Option Value), fs.map (·.isSome) = L.map (fun q => !q.2.isEmpty) → Q fs s) → wpAny (model P w) A ((refsOf L).mapM firstOfTuple') Q E s
  | [], Q, _, q => by
    show wpAny _ _ (List.mapM firstOfTuple' []) _ _ _
    rw [List.mapM_nil]
    exact wpAny_pure (q [] rfl)
  | p :: L, Q, t, q => by
    have ty := (t p List.mem_cons_self).typeIs
    obtain ⟨u, its, m, g, c, dt, is⟩ := t p List.mem_cons_self
    show wpAny _ _ (List.mapM firstOfTuple' (.ref p.1 :: refsOf L)) _ _ _
    rw [List.mapM_cons]
    refine wpAny_bind ?_
    rw [kas_first_eq]
    refine wpAny_bind (wpAny_typeOf ty ?_)
    rw [if_neg (by decide)]
    refine wpAny_bind (listItems_at g dt (wpAny_pure ?_))
    refine wpAny_bind (firsts_go L (fun r hr => t r (List.mem_cons_of_mem _ hr)) fun fs e => wpAny_pure (q _ ?_))
    rw [List.map_cons, List.map_cons, e]
    congr 1
    have hl := is.length
    rw [Array.length_toList] at hl
    cases z : p.2 with
    | nil =>
      rw [z] at hl
      have : its.size = 0 := hl.symm
      have : its[0]? = none := by simp [this]
      rw [this]; rfl
    | cons a b =>
      rw [z] at hl
      have : 0 < its.size := by rw [← hl]; exact Nat.succ_pos _
      have : its[0]? = some its[0] := Array.getElem?_eq_getElem this
      rw [this]; rfl
theorem oneLt_tup {x y : PyData} {xs ys : List PyData} {a b : Value} {as bs : List Addr} {Q : Bool → Shared → Prop} (ra : PySem.Reads s.heap a (.tuple xs) as) (rb : PySem.Reads s.heap b (.tuple ys) bs) (hal : alikeAll xs ys = true) (hu : A.units + min (PyData.tuple xs).depth (PyData.tuple ys).depth < cLine) (hq : Q (dataLt (.tuple xs) (.tuple ys)) s) :
    wpAny (model P w) A (oneLt' true a b) Q E s := by
  cases ra with
  | @tuple l o vs n _ as₁ h1 h2 h3 h4 =>
    cases rb with
    | @tuple l' o' vs' n' _ bs₁ k1 k2 k3 k4 =>
      have n1 : vs.size = xs.length := by simpa using SeqAt.ReadsAll.length _ _ _ h4
      have n2 : vs'.size = ys.length := by simpa using SeqAt.ReadsAll.length _ _ _ k4
      rw [dataLt_tuple, ← firstLt_toks xs ys hal, ← n1, ← n2] at hq
      rw [oneLt'_eq]
      simp only [if_true]
      refine wpAny_bind (wpAny_cRoomFor (by omega) ?_)
      have hin : A.in1.units + min (PyData.depthAll xs) (PyData.depthAll ys) < cLine := by
        simp only [PyData.depth] at hu
        show A.units + 1 + _ < _
        omega
      obtain ⟨cl, dd, da, sl⟩ := o
      obtain ⟨cl2, dd2, da2, sl2⟩ := o'
      simp only at h2 h3 k2 k3
      subst h2 h3 k2 k3
      refine wpAny_bind (wpAny_callSpecialIfBound?_slot (T := "tuple") ⟨_, h1, rfl⟩ F.slot_tuple_lt (call_meets F.slot_tuple_lt ⟨_, h1, rfl⟩ F.entry_tuple_lt (F.args_tuple_lt_2 _ _) (SeqAt.tuple_ltAt l l' vs vs' n n' dd dd2 sl sl2 (SeqAt.pairEq xs ys) (fun j => dataLt (xs.getD j .none) (ys.getD j .none))) ?_))
      refine ⟨h1, k1, fun j j1 j2 => ?_, fun j j1 j2 hj => ?_, ?_⟩
      · have := eqAt_alikeAll xs ys A.in1 s vs.toList vs'.toList _ _ h4 k4 hal hin j (by simpa using j1) (by simpa using j2)
        simpa using this
      · have := rcLt_alikeAll xs ys A.in1 s vs.toList vs'.toList _ _ h4 k4 hal hin j (by simpa using j1) (by simpa using j2) hj
        simpa using this
      · exact wpAny_truthy_bool hq
/-- lists of rows of texts can be sorted -/
theorem rows_sort {L : Mbs} (t : ∀ q ∈ L, Tx P w s.heap q.2 q.1) (hu : A.units + 1 < cLine) : SortsAt P w A s (dataKind s.heap (L.map fun q => rowD q.2)) (refsOf L) := by
  by_cases all : ∀ q ∈ L, q.2 ≠ []
  · refine SortsAt.data (rows_each t) (rows_alike L) (.inl fun d hd => ?_) fun d hd => ?_
    · obtain ⟨q, hq, rfl⟩ := List.mem_map.mp hd
      cases z : q.2 with
      | nil => exact absurd z (all q hq)
      | cons a b => exact ⟨.str a, b.map .str, by simp [rowD, z]⟩
    · obtain ⟨q, hq, rfl⟩ := List.mem_map.mp hd
      rw [depth_row]; exact hu
  · have keys : ∀ v, v ∈ refsOf L → ∃ a, (dataKind s.heap (L.map fun q => rowD q.2)).keyOf v = some a := fun v hv => by
      obtain ⟨q, hq, rfl⟩ := List.mem_map.mp hv
      exact ⟨_, dataKind_some (rows_alike L) (List.mem_map.mpr ⟨q, hq, rfl⟩) (tx_reads (t q hq))⟩
    have allF : ∀ fs : List (Option Value), fs.map (·.isSome) = L.map (fun q => !q.2.isEmpty) → (fs.toArray.all fun x => x.isSome) = false := fun fs e => by
      cases z : fs.toArray.all fun x => x.isSome with
      | false => rfl
      | true =>
        exfalso
        refine all fun q hq hn => ?_
        rw [List.all_toArray] at z
        have m : (!q.2.isEmpty) ∈ fs.map (·.isSome) := by rw [e]; exact List.mem_map.mpr ⟨q, hq, rfl⟩
        obtain ⟨f, hf, ef⟩ := List.mem_map.mp m
        have := List.all_eq_true.mp z f hf
        rw [ef, hn] at this
        cases this
    have head : ∀ fs : List (Option Value), fs.map (·.isSome) = L.map (fun q => !q.2.isEmpty) → (fs.toArray[0]?.bind id).isSome = match L with | [] => false | q :: _ => !q.2.isEmpty := fun fs e => by
      cases L with
      | nil =>
        cases fs with
        | nil => rfl
        | cons _ _ => simp at e
      | cons q L =>
        cases fs with
        | nil => simp at e
        | cons f fs =>
          rw [List.map_cons, List.map_cons] at e
          have e1 := (List.cons.inj e).1
          simpa using e1
    refine ⟨keys, ?_⟩
    cases hd : (match L with | [] => false | q :: _ => !q.2.isEmpty : Bool) with
    | true =>
      refine ⟨general', fun E x y a b Q ha hb hq => ?_, fun _ E Q hq => ?_⟩
      · obtain ⟨d, as, h1, ra, rfl⟩ := dataKind_inv ha
        obtain ⟨d', as', h2, rb, rfl⟩ := dataKind_inv hb
        obtain ⟨q, _, rfl⟩ := List.mem_map.mp h1
        obtain ⟨r, _, rfl⟩ := List.mem_map.mp h2
        show wpAny _ _ (oneLt' false x y) _ _ _
        exact oneLt_alike (fun z => nomatch z) ra rb (alike_rows _ _) (by simp [rowD]) (by rw [depth_row, depth_row]; exact hu) hq
      · rw [kat_kind_eq, List.mapM_toArray, map_eq_pure_bind]
        refine wpAny_bind (wpAny_bind (firsts_go L t fun fs e => wpAny_pure ?_))
        rw [if_neg (by rw [allF fs e]; decide), if_pos (by rw [head fs e]; exact hd)]
        exact wpAny_pure hq
    | false =>
      refine ⟨oneType', fun E x y a b Q ha hb hq => ?_, fun h2 E Q hq => ?_⟩
      · obtain ⟨d, as, h1, ra, rfl⟩ := dataKind_inv ha
        obtain ⟨d', as', h2, rb, rfl⟩ := dataKind_inv hb
        obtain ⟨q, _, rfl⟩ := List.mem_map.mp h1
        obtain ⟨r, _, rfl⟩ := List.mem_map.mp h2
        rw [keyLt'_oneType]
        exact oneLt_tup (x := .none) (y := .none) ra rb (alike_strs _ _) (by have := depth_row q.2; have := depth_row r.2; unfold rowD at *; omega) hq
      · rw [kat_kind_eq, List.mapM_toArray, map_eq_pure_bind]
        refine wpAny_bind (wpAny_bind (firsts_go L t fun fs e => wpAny_pure ?_))
        rw [if_neg (by rw [allF fs e]; decide), if_neg (by rw [head fs e, hd]; decide)]
        rw [oneTypeOnly'_eq, List.mapM_toArray, map_eq_pure_bind]
        refine wpAny_bind (wpAny_bind (wpAny_bind (kas_mapM (r := Value.type "tuple") _ (fun v hv Q' hq' => ?_) (wpAny_pure ?_))))
        · obtain ⟨q, hq2, rfl⟩ := List.mem_map.mp hv
          exact wpAny_typeOf (t q hq2).typeIs hq'
        · cases L with
          | nil => simp [refsOf] at h2
          | cons q L =>
            have g0 : (List.map (fun _ => Value.type "tuple") (refsOf (q :: L))).toArray[0]? = some (Value.type "tuple") := by simp [refsOf]
            rw [g0]
            dsimp only
            have a1 : ((List.map (fun _ => Value.type "tuple") (refsOf (q :: L))).toArray.all fun x => x == Value.type "tuple") = true := by
              simp only [List.all_toArray, List.all_map, List.all_eq_true]
              intro _ _
              exact beq_self_eq_true _
            rw [a1]
            exact wpAny_pure (wpAny_pure hq)

/-! ### sorted(set) -/
theorem sorted_setTt {a : Addr} {L : Mbs} {T : SD} {Q : Value → Shared → Prop} (R : TtS P w s.heap a L T) (hh : A.handled = none) (hu : A.units + 3 < cLine)
    (hQ : ∀ s' p (out : Array Value) (c : Nat) (L' : Mbs), (∀ b o, s.heap.get? b = some o → s'.heap.get? b = some o) → s'.gens = s.gens → s'.os = s.os → s.heap.objs.size ≤ p →
      s'.heap.get? p = some (seqObj "list" out c) → out.toList = refsOf L' → L'.Perm L → L'.Pairwise (fun q r => leR q.2 r.2 = true) → Q (.ref p) s') :
    wpAny (model P w) A (call (.builtin "sorted") [.ref a]) Q E s := by
  have num := R.num
  have few := R.few
  refine Calls.call_function_entry kind_sorted plain_sorted entry_sorted (args_sorted1 _) ?_
  unfold Builtin.«sorted»
  refine wpAny_bind (m := checkCount "sorted" 1 1 _) (wpAny_pure ?_)
  refine wpAny_bind (collect_set (A := A.in1) hh ⟨_, R.obj, rfl, rfl⟩ R.fit (by unfold scanBound; omega) R.tab.ris R.mar fun s1 vs k1 hz g1 o1 pm => ?_)
  have he : T.1.toList.map (·.2) = refsOf L := by
    rw [R.ent]
    simp [tEnt, refsOf]
  rw [he] at pm
  have ord : ∀ l : List Value, (∀ v ∈ l, v ∈ refsOf L) → ∃ L1 : Mbs, l = refsOf L1 ∧ ∀ q ∈ L1, q ∈ L := by
    intro l
    induction l with
    | nil => exact fun _ => ⟨[], rfl, fun q hq => absurd hq (by simp)⟩
    | cons v l ih =>
      intro hv
      obtain ⟨q, hq, e⟩ := List.mem_map.mp (hv v List.mem_cons_self)
      obtain ⟨L1, e1, h1⟩ := ih fun u hu => hv u (List.mem_cons_of_mem _ hu)
      exact ⟨q :: L1, by rw [e1, ← e]; rfl, fun r hr => (List.mem_cons.mp hr).elim (fun z => by rw [z]; exact hq) (h1 r)⟩
  have one : ∀ q ∈ L, ∀ r ∈ L, q.1 = r.1 → q = r := fun q hq r hr e => by
    have a1 := R.tps q hq
    rw [e] at a1
    exact Prod.ext e (a1.inj (R.tps r hr))
  have back : ∀ L1 : Mbs, (∀ q ∈ L1, q ∈ L) → (refsOf L1).Perm (refsOf L) → L1.Perm L := fun L1 h1 p1 => by
    have nL : L.Nodup := List.Pairwise.of_map (·.2) (fun _ _ ne e => ne (congrArg _ e)) R.dif
    have nr : (refsOf L).Nodup := List.pairwise_map.mpr (List.Pairwise.imp_of_mem (fun {q r} hq hr ne e => ne (one q hq r hr (by injection e))) nL)
    have n1 : L1.Nodup := List.Pairwise.of_map _ (fun _ _ ne e => ne (congrArg (fun q : Addr × List Str => Value.ref q.1) e)) (p1.nodup_iff.mpr nr)
    refine (List.perm_ext_iff_of_nodup n1 nL).mpr fun q => ⟨h1 q, fun hq => ?_⟩
    obtain ⟨r, hr, e⟩ := List.mem_map.mp (p1.mem_iff.mpr (List.mem_map.mpr ⟨q, hq, rfl⟩))
    injection e with e
    rw [← one r (h1 r hr) q hq e]
    exact hr
  obtain ⟨L1, e1, sub1⟩ := ord vs fun v hv => pm.mem_iff.mp hv
  have p1 : L1.Perm L := back L1 sub1 (by rw [← e1]; exact pm)
  have hvl : vs.length < 64 := by rw [pm.length_eq]; unfold refsOf; rw [List.length_map]; exact few
  refine wpAny_bind (wpAny_newList ?_ (by rw [sizeLine_eq]; omega))
  have hoL : (s1.heap.push (seqObj "list" vs.toArray 0)).get? s1.heap.objs.size = some (seqObj "list" vs.toArray 0) := Heap.get?_push_size _ rfl
  have nt : ∀ q ∈ L, ∀ h2 : Heap, Tx P w h2 q.2 q.1 → True := fun _ _ _ _ => trivial
  refine wpAny_bind (wpAny_holding (wpAny_call_entry slot_list_sort ⟨_, hoL, rfl⟩ entry_list_sort (list_sort_vals (s := { s1 with heap := s1.heap.push (seqObj "list" vs.toArray 0) }) (κ := dataKind (sortingHeap (s1.heap.push (seqObj "list" vs.toArray 0)) s1.heap.objs.size vs) (L1.map fun q => rowD q.2)) hoL ?_ (by rw [sizeLine_eq]; omega) ?_) (args_list_sort _)))
  · rw [e1]
    refine rows_sort (s := { s1 with heap := sortingHeap (s1.heap.push (seqObj "list" (refsOf L1).toArray 0)) s1.heap.objs.size (refsOf L1) }) (fun q hq => ?_) (by show A.units + 1 + 1 + 1 < cLine; omega)
    refine tx_keep (tx_keep (R.tps q (sub1 q hq)) k1) fun c u e => ?_
    exact sortingHeap_old (Nat.ne_of_lt (Heap.lt_size e)) (Heap.get?_push_of_some _ e)
  · refine ⟨_, rfl, ?_⟩
    generalize hO : sortVals (dataKind (sortingHeap (s1.heap.push (seqObj "list" vs.toArray 0)) s1.heap.objs.size vs) (L1.map fun q => rowD q.2)) false vs vs = out
    have po : out.Perm vs := by
      rw [← hO]
      unfold sortVals
      have z := (List.mergeSort_perm (vs.zip vs) (sortLe (dataKind (sortingHeap (s1.heap.push (seqObj "list" vs.toArray 0)) s1.heap.objs.size vs) (L1.map fun q => rowD q.2)).toKeyOrd false fun p : Keyed => keyD (dataKind (sortingHeap (s1.heap.push (seqObj "list" vs.toArray 0)) s1.heap.objs.size vs) (L1.map fun q => rowD q.2)) p.1)).map Prod.snd
      rw [List.map_snd_zip (Nat.le_refl _)] at z
      exact z
    have tL1 : ∀ q ∈ L1, Tx P w (sortingHeap (s1.heap.push (seqObj "list" vs.toArray 0)) s1.heap.objs.size vs) q.2 q.1 := fun q hq => by
      refine tx_keep (tx_keep (R.tps q (sub1 q hq)) k1) fun c u e => ?_
      exact sortingHeap_old (Nat.ne_of_lt (Heap.lt_size e)) (Heap.get?_push_of_some _ e)
    have eo : EachIs (fun v (q : Addr × List Str) => v = Value.ref q.1) out (L1.mergeSort (dataLe false fun q : Addr × List Str => rowD q.2)) := by
      rw [← hO]
      have z1 : EachIs (fun v (q : Addr × List Str) => v = Value.ref q.1) vs L1 := by rw [e1]; exact refs_each L1
      have z2 : EachIs (fun v (q : Addr × List Str) => ∃ as, PySem.Reads (sortingHeap (s1.heap.push (seqObj "list" vs.toArray 0)) s1.heap.objs.size vs) v (rowD q.2) as) vs L1 := by
        have z := rows_each2 tL1
        rw [← e1] at z
        exact z
      exact sortVals_data false z1 z2 (rows_alike L1)
    have e2 := each_refs eo
    have p2 : (L1.mergeSort (dataLe false fun q : Addr × List Str => rowD q.2)).Perm L := (List.mergeSort_perm _ _).trans p1
    have w2 : (L1.mergeSort (dataLe false fun q : Addr × List Str => rowD q.2)).Pairwise (fun q r => leR q.2 r.2 = true) := by
      have tot := sortLe_total (listOrd itemOrd) false (fun q : Addr × List Str => keyToks (rowD q.2))
      exact List.pairwise_mergeSort (fun a b c => tot.trans a b c) (fun a b => by rw [Bool.or_eq_true]; exact tot.total a b) L1
    generalize L1.mergeSort (dataLe false fun q : Addr × List Str => rowD q.2) = L2 at e2 p2 w2
    obtain ⟨c, hc⟩ := sortedHeap_at (vs := vs) (out := out.toArray) hoL
    refine wpAny_pure ⟨_, rfl, hQ _ s1.heap.objs.size out.toArray c L2 (fun b u e => ?_) g1 o1 hz hc (by simpa using e2) p2 w2⟩
    have q := k1 b u e
    have hlt := Heap.lt_size q
    show (sortedHeap (s1.heap.push (seqObj "list" vs.toArray 0)) s1.heap.objs.size vs out.toArray).get? b = some u
    rw [sortedHeap_old (Nat.ne_of_lt hlt) (by rw [size_push']; exact Nat.lt_succ_of_lt hlt)]
    exact Heap.get?_push_of_some _ q
end
/-! ### the rules -/
def tSTt (K : PySem.W.Frag) (ta : TE) : TE := fun σ H Q => ta σ H fun x H1 => ∃ (l : Addr) (ks : Mbs), x = .ref l ∧ (SqL K H1 l (ks.map fun q => V.ref q.1) ∨ SqT K H1 l (ks.map fun q => V.ref q.1)) ∧ (∀ q ∈ ks, SqT K H1 q.1 (q.2.map V.str)) ∧ ks.length < 64 ∧
  ∀ (p : Addr) (L : Mbs), (∀ q ∈ L, q ∈ ks) → (∀ q ∈ ks, q.2 ∈ L.map (·.2)) → (L.map (·.2)).Nodup → (L.map (·.2)).Pairwise (fun k l => leR k l = true) → H1 p = none → Q (.ref p) (upd H1 p (.lst (L.map fun q => V.ref q.1)))
section
variable {X : Cx}
theorem vals_refs : ∀ L : Mbs, Vals (L.map fun q => V.ref q.1) (refsOf L)
  | [] => .nil
  | _ :: L => .cons rfl (vals_refs L)
theorem refs_vals : ∀ {L : Mbs} {us : List Value}, Vals (L.map fun q => V.ref q.1) us → us = refsOf L
  | [], _, .nil => rfl
  | q :: L, _, .cons r t => by
    cases r
    rw [refs_vals t]
    rfl
theorem items_vals {P : Program} {w : World} : ∀ {k : List Str} {us : List Value}, Vals (k.map V.str) us → ItemsAre (strKind P w) k us
  | [], _, .nil => .nil
  | z :: k, _, .cons r t => by
    obtain ⟨u, rfl⟩ := r
    exact .cons (is_str z u) (items_vals t)
theorem inv_tx {pins : List (Addr × Obj)} {σ : L2.St} {H : Hp} {s : Shared} (I : Inv X pins σ H s) {b : Addr} {k : List Str} (h : SqT X.K H b (k.map V.str)) : Tx X.prog X.w s.heap k b := by
  obtain ⟨its, r, ⟨o, ho, hc, n, hd⟩, _⟩ := I.tuple h
  exact ⟨o, its.toArray, n, ho, hc, hd, by simpa using items_vals r⟩
theorem pe_STt {a : Expr} {ta : TE} {p p2 q pos : Pos} (hc : X.calm = true) (hu : X.A.units + 64 < cLine) (hg : Gl X "sorted") (hm : X.mg "sorted" = none) (hg2 : Gl X "set") (hm2 : X.mg "set" = none) (ha : PE X a ta)
    (na : starEach [a] X.env = (false, eval a X.env) :: starEach [] X.env := by rfl) : PE X (.Call (.Name "sorted" p) [.Call (.Name "set" p2) [a] [] q] [] pos) (tSTt X.K ta) := by
  refine ⟨fun pins s σ H Q I h => ?_⟩
  refine Call_ (ld_blt I hg hm (show _ = some (.builtin "sorted") by decide +kernel) ?_)
  refine PyProof.Rows.callWith_builtin1 (PyProof.Rows.args_cons ?_ rfl) rfl rfl
  refine Call_ (ld_blt I hg2 hm2 boot_set ?_)
  refine PyProof.Rows.callWith_type1 (PyProof.Rows.args_cons (thn (ha.run pins s σ H _ I h) fun v s1 ⟨x, H1, I1, r1, q1⟩ => PyProof.Rows.args_nil ?_) na) na rfl
  obtain ⟨l, ks, rfl, hq, hk, hf, q1⟩ := q1
  cases r1
  have tp : ∀ r ∈ ks, Tx X.prog X.w s1.heap r.2 r.1 := fun r hr => inv_tx I1 (hk r hr)
  have fin : ∀ (h' : Heap) (tk : Nat) (L : Mbs) (T : SD), TtS X.prog X.w h' s1.heap.objs.size L T → Ins ks ks.length L → (∀ b o, s1.heap.get? b = some o → h'.get? b = some o) →
      wpAny (model X.prog X.w) X.A (call (.builtin "sorted") [.ref s1.heap.objs.size]) (EP X pins σ Q) X.xe { s1 with heap := h', toks := tk } := fun h' tk L T R g k => by
    have I2 : Inv X pins σ H1 { s1 with heap := h', toks := tk } := I1.kept fun b o e => k b o e
    refine sorted_setTt (s := { s1 with heap := h', toks := tk }) R (I2.ok.hd hc) (by omega) fun s2 p2 out c L' k2 g2 o2 hp hob hout pm pw => ?_
    have hlen : (L'.map fun q => V.ref q.1).length ≤ sizeLine := by rw [List.length_map, sizeLine_eq, pm.length_eq]; have := R.few; omega
    have hn : H1 p2 = none := I2.hok.fresh hp
    have J : Inv X pins σ (upd H1 p2 (.lst (L'.map fun q => V.ref q.1))) { ({ s1 with heap := h', toks := tk } : Shared) with heap := s2.heap, gens := s2.gens, drawn := s2.drawn, toks := s2.toks } :=
      I2.call (ch := []) (Un.laid k2 hp hn) (I2.hok.laid k2 hp ⟨hlen, out.toList, c, by rw [hout]; exact vals_refs L', hob⟩) (by rw [g2]; exact I2.bare) (fun _ z => nomatch z)
    have e : s2 = { s1 with heap := s2.heap, gens := s2.gens, drawn := s2.drawn, toks := s2.toks } := by
      obtain ⟨x1, x2, x3, x4, x5⟩ := s2
      have o2 : x5 = s1.os := o2
      subst o2
      rfl
    rw [e]
    refine ⟨.ref p2, _, J, rfl, q1 p2 L' (fun r hr => ?_) (fun r hr => ?_) ((pm.map (·.2)).nodup_iff.mpr R.dif) (List.pairwise_map.mpr pw) hn⟩
    · exact List.mem_of_mem_take (g.sub r (pm.mem_iff.mp hr))
    · rw [(pm.map (·.2)).mem_iff]
      exact g.all r (by rw [List.take_length]; exact hr)
  rcases hq with hq | hq
  · obtain ⟨its, r, pl, hz⟩ := I1.list hq
    refine call_setTl ks (I1.ok.hd hc) pl.isList (by show its = refsOf ks; exact refs_vals r) tp hf (by omega) fun h' tk L T R g k => ?_
    exact PyProof.Rows.args_nil (fin h' tk L T R g k)
  · obtain ⟨its, r, pl, hz⟩ := I1.tuple hq
    refine call_setTt ks (I1.ok.hd hc) pl (by show its = refsOf ks; exact refs_vals r) tp hf (by omega) fun h' tk L T R g k => ?_
    exact PyProof.Rows.args_nil (fin h' tk L T R g k)
end
end FD
/-! tuple(sorted(sorted(set(rows)), key=len)); tuples that the program made; dicts with tuple keys -/
namespace FD
open PySem PySem.Spec L2 PyProof.Rows PySem.W PySem.Froz
/-! ### sorted(xs, key=len) -/
def lenV (vs : List (Value × Nat)) : List Value := vs.map (·.1)
theorem lenV_each : ∀ vs : List (Value × Nat), EachIs (fun v (b : Value × Nat) => v = b.1) (lenV vs) vs
  | [] => .nil
  | _ :: vs => .cons rfl (lenV_each vs)
theorem each_lenV : ∀ {out : List Value} {vs : List (Value × Nat)}, EachIs (fun v (b : Value × Nat) => v = b.1) out vs → out = lenV vs
  | _, _, .nil => rfl
  | _, _ :: _, .cons h t => by rw [each_lenV t, h]; rfl
theorem ints_alike {β : Type} (k : β → Int) (bs : List β) : AllAlike (bs.map fun b => .int (k b)) := fun d hd d' hd' => by
  obtain ⟨q, _, rfl⟩ := List.mem_map.mp hd
  obtain ⟨r, _, rfl⟩ := List.mem_map.mp hd'
  simp [alike]
/-- by length, in order -/
def byLen (α : Type) (l : List (α × Nat)) : List (α × Nat) := l.mergeSort fun a b => decide ((a.2 : Int) ≤ (b.2 : Int))
/-- a list's items with their lengths -/
def tSortLen (K : PySem.W.Frag) (te : TE) : TE := fun σ H Q => te σ H fun x H1 => ∃ (a : Addr) (ys : List (V × Nat)), x = .ref a ∧ SqL K H1 a (ys.map (·.1)) ∧ (∀ y ∈ ys, ∃ t l, y.1 = .ref t ∧ SqT K H1 t l ∧ l.length = y.2) ∧
  ∀ p, H1 p = none → Q (.ref p) (upd H1 p (.lst ((byLen V ys).map (·.1))))
section
variable {X : Cx}
theorem vals_pair : ∀ {ys : List (V × Nat)} {us : List Value}, Vals (ys.map (·.1)) us → ∃ zs : List (Value × Nat), us = lenV zs ∧ Paired (fun (y : V × Nat) (z : Value × Nat) => RelV y.1 z.1 ∧ y.2 = z.2) ys zs
  | [], _, .nil => ⟨[], rfl, .nil⟩
  | y :: ys, _, .cons (b := u) r t => by
    obtain ⟨zs, e, q⟩ := vals_pair (ys := ys) t
    exact ⟨(u, y.2) :: zs, by rw [e]; rfl, .cons ⟨r, rfl⟩ q⟩
theorem pair_mem {α β : Type} {F : α → β → Prop} {as : List α} {bs : List β} (h : Paired F as bs) : ∀ b ∈ bs, ∃ a ∈ as, F a b := by
  induction h with
  | nil => exact fun b hb => absurd hb (by simp)
  | cons r _ ih =>
    intro b hb
    rcases List.mem_cons.mp hb with e | hb
    · exact ⟨_, List.mem_cons_self, by rw [e]; exact r⟩
    · obtain ⟨a, ha, q⟩ := ih b hb
      exact ⟨a, List.mem_cons_of_mem _ ha, q⟩
theorem pair_zip {α β : Type} {F : α → β → Prop} {as : List α} {bs : List β} (h : Paired F as bs) : as = (as.zip bs).map (·.1) ∧ bs = (as.zip bs).map (·.2) ∧ ∀ p ∈ as.zip bs, F p.1 p.2 := by
  induction h with
  | nil => exact ⟨rfl, rfl, fun p hp => absurd hp (by simp)⟩
  | cons r _ ih =>
    obtain ⟨h1, h2, h3⟩ := ih
    refine ⟨?_, ?_, fun p hp => ?_⟩
    · rw [List.zip_cons_cons, List.map_cons, ← h1]
    · rw [List.zip_cons_cons, List.map_cons, ← h2]
    · rw [List.zip_cons_cons] at hp
      rcases List.mem_cons.mp hp with e | hp
      · rw [e]; exact r
      · exact h3 p hp
/-- stable sorting does not look at what the items are -/
theorem byLen_map {α β : Type} (f : α → β) (l : List (α × Nat)) : byLen β (l.map fun p => (f p.1, p.2)) = (byLen α l).map fun p => (f p.1, p.2) := by
  unfold byLen
  rw [List.map_mergeSort]
  intro a _ b _
  rfl
theorem byLen_vals {ys : List (V × Nat)} {zs : List (Value × Nat)} (h : Paired (fun (y : V × Nat) (z : Value × Nat) => RelV y.1 z.1 ∧ y.2 = z.2) ys zs) : Vals ((byLen V ys).map (·.1)) (lenV (byLen Value zs)) := by
  obtain ⟨h1, h2, h3⟩ := pair_zip h
  obtain ⟨l, el⟩ : ∃ l : List ((V × Value) × Nat), l = (ys.zip zs).map fun p => ((p.1.1, p.2.1), p.1.2) := ⟨_, rfl⟩
  have e1 : ys = l.map fun p => (p.1.1, p.2) := by
    rw [el, List.map_map]
    exact h1
  have e2 : zs = l.map fun p => (p.1.2, p.2) := by
    rw [el, List.map_map]
    refine h2.trans (List.map_congr_left fun p hp => ?_)
    exact Prod.ext rfl (h3 p hp).2.symm
  have ok : ∀ p ∈ l, RelV p.1.1 p.1.2 := fun p hp => by
    rw [el] at hp
    obtain ⟨q, hq, e⟩ := List.mem_map.mp hp
    rw [← e]
    exact (h3 q hq).1
  rw [e1, e2, byLen_map (fun q : V × Value => q.1), byLen_map (fun q : V × Value => q.2)]
  have ok2 : ∀ p ∈ byLen (V × Value) l, RelV p.1.1 p.1.2 := fun p hp => ok p ((List.mergeSort_perm _ _).mem_iff.mp hp)
  generalize byLen (V × Value) l = l2 at ok2
  clear e1 e2 el ok h h1 h2 h3
  induction l2 with
  | nil => exact .nil
  | cons p l2 ih => exact .cons (ok2 p List.mem_cons_self) (ih fun q hq => ok2 q (List.mem_cons_of_mem _ hq))
theorem pe_sortLen {e : Expr} {te : TE} {p p2 pos kpos : Pos} (hu : X.A.units + 64 < cLine) (hg : Gl X "sorted") (hm : X.mg "sorted" = none) (hg2 : Gl X "len") (hm2 : X.mg "len" = none) (ha : PA X [e] (tCons te tNil))
    (ne : backTo pos (starEach [e] X.env) = (false, eval e X.env) :: backTo pos (starEach [] X.env) := by rfl) (hpl : (backTo pos (starEach [e] X.env)).any (·.1) = false := by rfl)
    (hall : (backToKw pos (keywordEach [⟨some "key", .Name "len" p2, kpos⟩] X.env)).all (·.1.isSome) = true := by rfl) (hnone : (backToKw pos (keywordEach [⟨some "key", .Name "len" p2, kpos⟩] X.env)).any (·.1.isNone) = false := by rfl)
    (hks : (backToKw pos (keywordEach [⟨some "key", .Name "len" p2, kpos⟩] X.env)).filterMap (·.1) = [Str.ofString "key"] := by rfl) :
    PE X (.Call (.Name "sorted" p) [e] [⟨some "key", .Name "len" p2, kpos⟩] pos) (tSortLen X.K te) := by
  refine ⟨fun pins s σ H Q I h => ?_⟩
  refine wpAny_Call_Name_kw (ld_blt I hg hm (show _ = some (.builtin "sorted") by decide +kernel) ?_)
  refine PyProof.Rows.callWith_kw (thn (ha.run pos pins s σ H (fun vs H1 => match vs with
    | [x] => ∃ (a : Addr) (ys : List (V × Nat)), x = .ref a ∧ SqL X.K H1 a (ys.map (·.1)) ∧ (∀ y ∈ ys, ∃ t l, y.1 = .ref t ∧ SqT X.K H1 t l ∧ l.length = y.2) ∧ ∀ p, H1 p = none → Q (.ref p) (upd H1 p (.lst ((byLen V ys).map (·.1))))
    | _ => False) I h) fun us s1 ⟨vs, H1, I1, r1, q0⟩ => ?_) ne hpl hall hnone
  obtain ⟨x, rfl⟩ : ∃ x, vs = [x] := by
    match vs, q0 with
    | [x], _ => exact ⟨x, rfl⟩
  obtain ⟨a, ys, ex, hs, hy, q⟩ := q0
  subst ex
  cases r1 with
  | cons r rr =>
    cases rr
    cases r
    show wpAny _ _ (evalAll ((do let v ← eval (.Name "len" p2) X.env; standAt pos; pure v) :: (backToKw pos (keywordEach [] X.env)).map (·.2))) _ _ s1
    refine wpAny_evalAll_cons (wpAny_bind (ld_blt I1 hg2 hm2 PySem.boot_len (wpAny_bind (wpAny_standAt (wpAny_pure ?_)))))
    refine wpAny_evalAll_nil ?_
    rw [hks]
    obtain ⟨its, rv, pl, hz⟩ := I1.list hs
    obtain ⟨zs, e1, pr⟩ := vals_pair rv
    have sz : zs.length = ys.length := (paired_len pr).symm
    have hzl : zs.length ≤ sizeLine := by rw [sz]; rw [List.length_map] at hz; exact hz
    have n63 := line63
    refine sorted_key_data (s := s1) (vs := its) (bs := zs) (R := fun v (b : Value × Nat) => v = b.1) (b := false) (fun b => .int b.2) pl.isList (by rw [e1]; exact lenV_each zs) (ints_alike (fun b : Value × Nat => (b.2 : Int)) zs) (.inr fun d hd => ?_) hzl (fun b _ => ?_)
      (PyProof.Rows.ksk_s1 _ _) (fun _ => PyProof.Rows.ksk_l1 _ _) (fun x => PyProof.Rows.ksk_t4 "len" x) (fun v b hv hb h tk kp => ?_) fun out c h' tk kp fr ho hlo eo => ?_
    · obtain ⟨b, _, rfl⟩ := List.mem_map.mp hd
      exact ⟨by simp, fun xs => by simp⟩
    · simp only [PyData.depth]; omega
    · subst hv
      obtain ⟨y, hym, ry, ly⟩ := pair_mem pr b hb
      obtain ⟨t, l, et, ht, hl⟩ := hy y hym
      rw [et] at ry
      have ry : b.1 = Value.ref t := ry
      obtain ⟨its2, r2, pt, hz2⟩ := I1.tuple ht
      have l2 := r2.length
      have pt2 : IsTup h t its2.toArray := by
        obtain ⟨o, ho, hc, n, hd⟩ := pt
        exact ⟨o, kp _ _ ho, hc, n, hd⟩
      rw [ry]
      refine len_tuple (s := { s1 with heap := h, toks := tk }) pt2 (by simp only [List.size_toArray]; omega) ⟨h, tk + 1 + 1, rfl, fun _ _ z => z, ?_⟩
      have e3 : (its2.toArray.size : Int) = ((b.2 : Nat) : Int) := by rw [List.size_toArray, ← l2, hl, ly]
      rw [e3]
      exact .int _ _
    · rw [dataLe_int] at eo
      have e2 := each_lenV eo
      have hv : Vals ((byLen V ys).map (·.1)) out := by rw [e2]; exact byLen_vals pr
      have hn : H1 (s1.heap.objs.size + 1) = none := I1.hok.fresh (Nat.le_succ _)
      have hlen : ((byLen V ys).map (·.1)).length ≤ sizeLine := by
        rw [List.length_map, show (byLen V ys).length = ys.length from List.length_mergeSort _, ← sz]; exact hzl
      exact ⟨.ref _, _, I1.laid (t' := tk) (o := .lst ((byLen V ys).map (·.1))) kp (Nat.le_succ _) ⟨hlen, out, c, hv, ho⟩, rfl, q _ hn⟩
end
end FD
/-! rows in order; made tuples; dicts with tuple keys; extend; index; new dicts handed on -/
namespace FD
open PySem PySem.Spec L2 Evl PyProof.Rows PySem.W
/-! ### rows in order, as a function -/
def onceR : List (List Str) → List (List Str)
  | [] => []
  | x :: r => if x ∈ onceR r then onceR r else x :: onceR r
theorem onceR_mem : ∀ {l : List (List Str)} {x : List Str}, x ∈ onceR l ↔ x ∈ l
  | [], x => by simp [onceR]
  | y :: r, x => by
    have ih := onceR_mem (l := r) (x := x)
    unfold onceR
    split
    · rename_i h
      rw [ih, List.mem_cons]
      exact ⟨.inr, fun z => z.elim (fun e => by rw [e]; exact onceR_mem.mp h) id⟩
    · rw [List.mem_cons, List.mem_cons, ih]
theorem onceR_nodup : ∀ l : List (List Str), (onceR l).Nodup
  | [] => List.nodup_nil
  | y :: r => by
    unfold onceR
    split
    · exact onceR_nodup r
    · rename_i h
      exact List.nodup_cons.mpr ⟨h, onceR_nodup r⟩
theorem onceR_len : ∀ l : List (List Str), (onceR l).length ≤ l.length
  | [] => Nat.le_refl _
  | y :: r => by
    have ih := onceR_len r
    unfold onceR
    split
    · exact Nat.le_succ_of_le ih
    · exact Nat.succ_le_succ ih
def ordS (rs : List (List Str)) : List (List Str) := (onceR rs).mergeSort leR
def ordT (rs : List (List Str)) : List (List Str) := (ordS rs).mergeSort fun a b => decide ((a.length : Int) ≤ (b.length : Int))
theorem leR_tot : TotalLe leR := sortLe_total (listOrd itemOrd) false (fun q : List Str => keyToks (rowD q))
theorem ordS_perm (rs : List (List Str)) : (ordS rs).Perm (onceR rs) := List.mergeSort_perm _ _
theorem ordT_perm (rs : List (List Str)) : (ordT rs).Perm (onceR rs) := (List.mergeSort_perm _ _).trans (ordS_perm rs)
theorem ordT_mem {rs : List (List Str)} {x : List Str} : x ∈ ordT rs ↔ x ∈ rs := (ordT_perm rs).mem_iff.trans onceR_mem
theorem ordT_nodup (rs : List (List Str)) : (ordT rs).Nodup := (ordT_perm rs).nodup_iff.mpr (onceR_nodup rs)
theorem ordT_len (rs : List (List Str)) : (ordT rs).length ≤ rs.length := by rw [(ordT_perm rs).length_eq]; exact onceR_len rs
theorem ordS_asc (rs : List (List Str)) : (ordS rs).Pairwise fun k l => leR k l = true :=
  List.pairwise_mergeSort (fun a b c => leR_tot.trans a b c) (fun a b => by rw [Bool.or_eq_true]; exact leR_tot.total a b) _
theorem toks_strs : ∀ {k l : List Str}, keyToksAll (k.map .str) = keyToksAll (l.map .str) → k = l
  | [], [], _ => rfl
  | [], y :: l, h => by simp [keyToksAll] at h
  | x :: k, [], h => by simp [keyToksAll] at h
  | x :: k, y :: l, h => by
    simp only [List.map_cons, keyToksAll, keyToks, List.cons_append, List.nil_append, List.cons.injEq, Sum.inr.injEq, true_and] at h
    rw [str_of_cps h.1, toks_strs h.2]
theorem leR_anti {k l : List Str} (h : leR k l = true) (q : leR l k = true) : k = l := by
  have h : (!(listOrd itemOrd).blt (keyToks (rowD l)) (keyToks (rowD k))) = true := h
  have q : (!(listOrd itemOrd).blt (keyToks (rowD k)) (keyToks (rowD l))) = true := q
  have e := (listOrd itemOrd).total (keyToks (rowD k)) (keyToks (rowD l)) (by simpa using q) (by simpa using h)
  simp only [rowD, keyToks] at e
  exact toks_strs e
theorem asc_one : ∀ {l m : List (List Str)}, (l.Pairwise fun a b => leR a b = true) → (m.Pairwise fun a b => leR a b = true) → l.Perm m → l = m
  | [], m, _, _, p => (List.Perm.nil_eq p)
  | x :: l, [], _, _, p => by have := p.length_eq; simp at this
  | x :: l, y :: m, h, k, p => by
    have e : x = y := by
      have h1 : x ∈ y :: m := p.mem_iff.mp List.mem_cons_self
      have h2 : y ∈ x :: l := p.mem_iff.mpr List.mem_cons_self
      rcases List.mem_cons.mp h1 with e | h1
      · exact e
      · rcases List.mem_cons.mp h2 with e | h2
        · exact e.symm
        · exact leR_anti (List.rel_of_pairwise_cons h h2) (List.rel_of_pairwise_cons k h1)
    subst e
    rw [asc_one (List.pairwise_cons.mp h).2 (List.pairwise_cons.mp k).2 (List.Perm.cons_inv p)]
theorem perm_rows : ∀ {l m : List (List Str)}, l.Nodup → m.Nodup → (∀ x, x ∈ l ↔ x ∈ m) → l.Perm m := fun hl hm h => (List.perm_ext_iff_of_nodup hl hm).mpr h
theorem byLen_rows (l : List (List Str)) : (byLen (List Str) (l.map fun k => (k, k.length))).map (·.1) = l.mergeSort fun a b => decide ((a.length : Int) ≤ (b.length : Int)) := by
  have e : byLen (List Str) (l.map fun k => (k, k.length)) = (l.mergeSort fun a b => decide ((a.length : Int) ≤ (b.length : Int))).map fun k => (k, k.length) := by
    unfold byLen
    rw [List.map_mergeSort]
    intro a _ b _
    rfl
  rw [e, List.map_map]
  exact List.map_id _
/-! ### in the layer -/
theorem dp_row {K : PySem.W.Frag} {Hh : Hp} {a : Addr} {k : List Str} (h : SqT K Hh a (k.map V.str)) : Dp K Hh (.ref a) (rowD k) := .tup h (dp_strs k)
theorem row_dp {K : PySem.W.Frag} {Hh : Hp} {v : V} {k : List Str} (h : Dp K Hh v (rowD k)) : ∃ a, v = .ref a ∧ SqT K Hh a (k.map V.str) := by
  obtain ⟨a, vs, e1, e2, e3⟩ := Dp.tup_of h
  rw [DpAll.strs e3] at e2
  exact ⟨a, e1, e2⟩
theorem rows_dp {K : PySem.W.Frag} {Hh : Hp} : ∀ {rs : List (List Str)} {vs : List V}, DpAll K Hh vs (rs.map rowD) → ∃ ks : Mbs, vs = (ks.map fun q => V.ref q.1) ∧ ks.map (·.2) = rs ∧ ∀ q ∈ ks, SqT K Hh q.1 (q.2.map V.str)
  | [], _, .nil => ⟨[], rfl, rfl, fun q hq => absurd hq (by simp)⟩
  | k :: rs, _, .cons h t => by
    obtain ⟨ks, e1, e2, e3⟩ := rows_dp (rs := rs) t
    obtain ⟨a, e4, e5⟩ := row_dp h
    refine ⟨(a, k) :: ks, by rw [e1, e4]; rfl, by rw [List.map_cons, e2], fun q hq => ?_⟩
    rcases List.mem_cons.mp hq with z | hq
    · rw [z]; exact e5
    · exact e3 q hq
theorem dp_rows {K : PySem.W.Frag} {Hh : Hp} : ∀ {ks : Mbs}, (∀ q ∈ ks, SqT K Hh q.1 (q.2.map V.str)) → DpAll K Hh (ks.map fun q => V.ref q.1) ((ks.map (·.2)).map rowD)
  | [], _ => .nil
  | q :: ks, h => .cons (dp_row (h q List.mem_cons_self)) (dp_rows fun r hr => h r (List.mem_cons_of_mem _ hr))
section
variable {C : Cfg} {M : List Addr} {δ : List Ent} {μ μ1 μ2 μ3 : Mem} {ta tb te td ty : TE} {a b : Addr} {d : PyData} {e : Ent} {tr : TA} {D : Ends} {t2 : TS} {i j : Nat}
theorem x_inord {rs : List (List Str)} (h : EvX C ta M δ μ μ1 e) (r : Rdd μ1 e (.list (rs.map rowD)) ∨ e = .d (.tuple (rs.map rowD))) (hl : rs.length < 64) :
    EvX C (tCB (rTupleS C.K) (tCons (tSortLen C.K (tSTt C.K ta)) tNil)) M δ μ μ1 (.d (.tuple ((ordT rs).map rowD))) := fun σ H o Q k => by
  show ta σ H _
  refine h σ H o _ fun v H1 o1 x1 r1 => ?_
  obtain ⟨l, vs, ev, hs, hd⟩ : ∃ l vs, v = .ref l ∧ (SqL C.K H1 l vs ∨ SqT C.K H1 l vs) ∧ DpAll C.K (hide M H1) vs (rs.map rowD) := by
    rcases r with r | rfl
    · obtain ⟨l, vs, e1, e2, e3⟩ := r.lst o1 r1
      exact ⟨l, vs, e1, .inl e2, e3⟩
    · obtain ⟨l, vs, e1, e2, e3⟩ := Dp.tup_of r1
      exact ⟨l, vs, e1, .inr (ex_t hide_le e2), e3⟩
  obtain ⟨ks, e1, e2, e3⟩ := rows_dp hd
  subst e1 e2
  rw [List.length_map] at hl
  refine ⟨l, ks, ev, hs, fun q hq => ex_t hide_le (e3 q hq), hl, fun p L sub cov nd asc hp => ?_⟩
  have eL : L.map (·.2) = ordS (ks.map (·.2)) := by
    refine asc_one asc (ordS_asc _) ((perm_rows nd (onceR_nodup _) fun x => ?_).trans (ordS_perm _).symm)
    rw [onceR_mem]
    constructor
    · intro z
      obtain ⟨q, hq, e⟩ := List.mem_map.mp z
      exact List.mem_map.mpr ⟨q, sub q hq, e⟩
    · intro z
      obtain ⟨q, hq, e⟩ := List.mem_map.mp z
      rw [← e]; exact cov q hq
  have g1 : Ex H1 (upd H1 p (.lst (L.map fun q => V.ref q.1))) := Ex.new hp
  have o2 := o1.grow g1
  refine ⟨p, L.map fun q => (V.ref q.1, q.2.length), rfl, ?_, fun y hy => ?_, fun p2 hp2 => ?_⟩
  · rw [List.map_map]
    exact SqL.of upd_same
  · obtain ⟨q, hq, e⟩ := List.mem_map.mp hy
    rw [← e]
    exact ⟨q.1, q.2.map V.str, rfl, ex_t g1 (ex_t hide_le (e3 q (sub q hq))), List.length_map _⟩
  · have eb : byLen V (L.map fun q => (V.ref q.1, q.2.length)) = (byLen (Addr × List Str) (L.map fun q => (q, q.2.length))).map fun p => (V.ref p.1.1, p.2) := by
      rw [← byLen_map (fun q : Addr × List Str => V.ref q.1), List.map_map]
      rfl
    obtain ⟨L3, e4⟩ : ∃ L3, L3 = (byLen (Addr × List Str) (L.map fun q => (q, q.2.length))).map (·.1) := ⟨_, rfl⟩
    have e5 : (byLen V (L.map fun q => (V.ref q.1, q.2.length))).map (·.1) = L3.map fun q => V.ref q.1 := by
      rw [eb, e4, List.map_map, List.map_map]
      rfl
    have e6 : L3.map (·.2) = ordT (ks.map (·.2)) := by
      have z : byLen (List Str) ((L.map (·.2)).map fun k => (k, k.length)) = (byLen (Addr × List Str) (L.map fun q => (q, q.2.length))).map fun p => (p.1.2, p.2) := by
        rw [← byLen_map (fun q : Addr × List Str => q.2), List.map_map, List.map_map]
        rfl
      have z2 := byLen_rows (L.map (·.2))
      rw [z, List.map_map] at z2
      unfold ordT
      rw [← eL, ← z2, e4, List.map_map]
      rfl
    have sub3 : ∀ q ∈ L3, q ∈ L := fun q hq => by
      rw [e4] at hq
      obtain ⟨p, hp, e⟩ := List.mem_map.mp hq
      obtain ⟨r, hr, er⟩ := List.mem_map.mp ((List.mergeSort_perm _ _).mem_iff.mp hp)
      rw [← e, ← er]; exact hr
    rw [e5]
    have g2 : Ex (upd H1 p (.lst (L.map fun q => V.ref q.1))) (upd (upd H1 p (.lst (L.map fun q => V.ref q.1))) p2 (.lst (L3.map fun q => V.ref q.1))) := Ex.new hp2
    have o3 := o2.grow g2
    refine ⟨p2, _, rfl, .inl ⟨SqL.of upd_same, fun l hl => ?_⟩⟩
    have dd : DpAll C.K (hide M (upd (upd H1 p (.lst (L.map fun q => V.ref q.1))) p2 (.lst (L3.map fun q => V.ref q.1)))) (L3.map fun q => V.ref q.1) ((L3.map (·.2)).map rowD) := by
      refine dp_rows fun q hq => ?_
      exact ex_t ((hide_ex g1).trans (hide_ex g2)) (e3 q (sub q (sub3 q hq)))
    rw [e6] at dd
    obtain ⟨o4, x4, d4⟩ := o3.tup hl dd
    exact k _ _ o4 (((x1.trans (hide_ex g1)).trans (hide_ex g2)).trans x4) d4
/-! ### tuples that the program made -/
theorem x_vh {ds : List PyData} (h : δ[i]? = some (.h ds)) : EvX C (tVar i) M δ μ μ (.h ds) := x_var h (fun z => nomatch z)
theorem x_vht {ds : List PyData} (h : δ[i]? = some (.h ds)) : EvX C (tVar i) M δ μ μ (.d (.tuple ds)) := x_wh (x_vh h)
theorem c_tupleLh {ds : List PyData} (r : Rdd μ e (.list ds)) : CallX C (rTupleS C.K) M δ μ μ [e] (.h ds) := fun σ H vs o h Q k => by
  obtain ⟨v, rfl, q⟩ := p1 h
  obtain ⟨p, ws, q1, q2, q3⟩ := r.lst o q
  refine ⟨p, ws, by rw [q1], .inl ⟨q2, fun l hl => ?_⟩⟩
  obtain ⟨o', x', d'⟩ := o.tup hl q3
  refine k _ _ o' x' ⟨l, ws, rfl, ?_, dpAll_mono x' _ _ q3⟩
  rw [hide_out (o.fresh hl), upd_same]
/-! ### a def that hands back a made tuple, or data -/
def spH (K : PySem.W.Frag) (n : Nat) (R : List PyData → Ent → Prop) : Sp := fun vs H Q _ => vs.length = n ∧ ∃ M ds e, (∀ a ∈ M, H a ≠ none) ∧ DpAll K (hide M H) vs ds ∧ R ds e ∧ ∀ v H', Ex H H' → EntOk K (hide M H') e v → Q v H'
def FinH (C : Cfg) (D : Ends) (e : Ent) : Prop := ∀ v H, Ex C.G H → EntOk C.K (hide C.M0 H) e v → D.rt v H
theorem x_callH {n : Nat} {R : List PyData → Ent → Prop} {ds : List PyData} {E : XK} (h : EvA C tr M δ μ μ1 (ds.map Ent.d)) (hp : R ds e) (hn : ds.length = n := by rfl) : EvX C (tCall (spH C.K n R) [] E tr) M δ μ μ1 e := fun σ H o Q k =>
  h σ H o _ fun vs H1 o1 x1 r1 => by
    rw [List.append_nil]
    refine ⟨by rw [(dpAll_of r1).length]; exact hn, M, ds, e, o1.alloc, dpAll_of r1, hp, fun v H2 e2 d2 => ?_⟩
    exact k v H2 (o1.grow e2) (x1.trans (hide_ex e2)) d2
theorem r_retH (h : EvX C te M δ μ μ1 e) (k : FinH C D e) : Run C (tRet te) D M δ μ := fun σ H o => h σ H o _ fun v H1 o1 x1 r => k v H1 o1.gr (r.mono (hide_sub o1.sub))
end
section
variable {P : Program} {w : World} {K : PySem.W.Frag} {mg : Str → Option Value} {base : Heap}
theorem def_H {x qual : Str} {st : Stmt} {f : Addr} {fd : FuncData} {N ps : List Str} {k : Nat} {R : List PyData → Ent → Prop} (F : Fun K x qual st f fd) (S : FnScope N ps (defScope st)) (hN : ps.length ≤ N.length)
    (h : ∀ (cdv : Value) (A : Around) (outer : List Env) (s : Shared) (H : Hp) (E : XK), Room k (A.deeper (PyProof.Rows.envOfC qual (defScope st) s.heap.objs.size f cdv)) →
      ∃ t, PSs (cxOf CX0 P w K mg base N qual (defScope st) f cdv A outer s H E).nox (defBody st) t ∧
        ∀ (M : List Addr) (G B : Hp) (ds : List PyData) (e : Ent), ds.length = ps.length → R ds e → ∀ D : Ends, FinH ⟨K, M, G, B⟩ D e → Run ⟨K, M, G, B⟩ t D M (startE N.length ds.length (ds.map Ent.d)) []) :
    FnOk P w K mg base CX0 (k + 1) f fd ps (spH K ps.length R) := by
  refine F.ok S (fun vs H Q E hs => hs.1) fun cdv A outer s H vs Q E hr hs => ?_
  obtain ⟨hn, M, ds, e, al, hd, hR, kk⟩ := hs
  obtain ⟨t, ht, run⟩ := h cdv A outer s H E hr
  exact ⟨t, ht, run M H (hide M H) ds e (by rw [← hd.length]; exact hn) hR _ (fun v H' e r => kk v H' e r) _ _ (ok_startD al hd (by rw [hn]; exact hN))⟩
end
/-! ### dicts whose keys are made tuples of whole numbers -/
abbrev Tct := List (List Int × PyData)
def kt (l : Tct) : List (List Key × PyData) := l.map fun p => (p.1.map Sum.inl, p.2)
def valT (l : Tct) (k : List Int) : Option PyData := (l.find? fun p => decide (p.1 = k)).map (·.2)
abbrev TcOk (K : PySem.W.Frag) (Hh : Hp) (ws : List (List Key × V)) (kvs : List (List Key × PyData)) : Prop := Paired (fun (p : List Key × V) (q : List Key × PyData) => p.1 = q.1 ∧ Dp K Hh p.2 q.2) ws kvs
theorem inl_inj : ∀ {k l : List Int}, k.map (Sum.inl : Int → Key) = l.map Sum.inl → k = l
  | [], [], _ => rfl
  | [], _ :: _, h => by simp at h
  | _ :: _, [], h => by simp at h
  | x :: k, y :: l, h => by
    rw [List.map_cons, List.map_cons] at h
    injection h with h1 h2
    rw [Sum.inl.inj h1, inl_inj h2]
theorem tc_val {K : PySem.W.Frag} {Hh : Hp} : ∀ {l : Tct} {ws : List (List Key × V)} (k : List Int), TcOk K Hh ws (kt l) → (valT l k = none → valV ws (k.map Sum.inl) = none) ∧ ∀ d, valT l k = some d → ∃ v, valV ws (k.map Sum.inl) = some v ∧ Dp K Hh v d
  | [], _, k, .nil => ⟨fun _ => rfl, fun d h => by cases h⟩
  | p :: r, _, k, .cons (a := w) (l₁ := ws) h c => by
    obtain ⟨i1, i2⟩ := tc_val (l := r) k c
    have h1 : w.1 = p.1.map Sum.inl := h.1
    have e : valT (p :: r) k = if p.1 = k then some p.2 else valT r k := by
      unfold valT
      rw [List.find?_cons]
      by_cases q : p.1 = k
      · rw [decide_eq_true q, if_pos q]; rfl
      · rw [decide_eq_false q, if_neg q]
    rw [e]
    by_cases q : p.1 = k
    · rw [if_pos q, valV_pos (by rw [h1, q])]
      exact ⟨fun z => (nomatch z), fun d z => ⟨w.2, rfl, by rw [← Option.some.inj z]; exact h.2⟩⟩
    · rw [if_neg q, valV_neg (fun z => q (inl_inj (h1.symm.trans z)))]
      exact ⟨i1, i2⟩
theorem tc_len {K : PySem.W.Frag} {Hh : Hp} {l : Tct} {ws : List (List Key × V)} (c : TcOk K Hh ws (kt l)) : ws.length = l.length := by
  have := paired_len c
  rw [this]
  exact List.length_map _
theorem tc_keys {K : PySem.W.Frag} {Hh : Hp} : ∀ {l : Tct} {ws : List (List Key × V)}, TcOk K Hh ws (kt l) → ws.map (·.1) = l.map fun p => p.1.map Sum.inl
  | [], _, .nil => rfl
  | p :: r, _, .cons h c => by rw [List.map_cons, tc_keys (l := r) c, h.1]; rfl
theorem tc_snoc {K : PySem.W.Frag} {Hh : Hp} {l : Tct} {ws : List (List Key × V)} {k : List Int} {v : V} {d : PyData} (c : TcOk K Hh ws (kt l)) (hk : valT l k = none) (h : Dp K Hh v d) : TcOk K Hh (putK ws (k.map Sum.inl) v) (kt (l ++ [(k, d)])) := by
  have e : (ws.any fun kv => decide (kv.1 = k.map Sum.inl)) = false := by
    rw [List.any_eq_false]
    intro p hp z
    have z := of_decide_eq_true z
    have m : p.1 ∈ ws.map (·.1) := List.mem_map.mpr ⟨p, hp, rfl⟩
    rw [tc_keys c, z] at m
    obtain ⟨q, hq, eq⟩ := List.mem_map.mp m
    have e2 := inl_inj eq
    have : l.find? (fun p => decide (p.1 = k)) = none := by
      unfold valT at hk
      cases y : l.find? (fun p => decide (p.1 = k)) with
      | none => rfl
      | some u => rw [y] at hk; cases hk
    have := List.find?_eq_none.mp this q hq
    exact this (decide_eq_true e2)
  unfold putK
  rw [e, if_neg Bool.false_ne_true]
  unfold kt
  rw [List.map_append]
  exact pairs_app c (.cons ⟨rfl, h⟩ .nil)
theorem key_at {K : PySem.W.Frag} {Hh : Hp} {v : V} {k : List Int} (h : EntOk K Hh (.h (k.map .int)) v) : ∃ b, v = .ref b ∧ Hh b = some (.tup ((k.map (Sum.inl : Int → Key)).map kV)) := by
  obtain ⟨b, vs, e1, e2, e3⟩ := h
  refine ⟨b, e1, ?_⟩
  rw [e2, DpAll.ints e3, List.map_map]
  rfl
section
variable {C : Cfg} {M : List Addr} {δ : List Ent} {μ μ1 μ2 μ3 : Mem} {ta tb te td ty : TE} {a b : Addr} {d : PyData} {e : Ent} {tr : TA} {D : Ends} {t2 : TS} {i j : Nat} {l : Tct} {k : List Int}
theorem x_dgetT (hx : EvX C td M δ μ μ1 (.m a)) (hk : EvX C ty M δ μ1 μ2 (.h (k.map .int))) (hm : (a, .dT (kt l)) ∈ μ2) (hv : valT l k = some d) : EvX C (tDGet td ty) M δ μ μ2 (.d d) := fun σ H o Q kk =>
  hx σ H o _ fun x H1 o1 x1 r1 => hk σ H1 o1 _ fun y H2 o2 x2 r2 => by
    have e1 : x = .ref a := r1
    obtain ⟨b, e2, e3⟩ := key_at r2
    obtain ⟨_, _, ws, q1, q2⟩ := o2.mem _ hm
    obtain ⟨v, e4, e5⟩ := (tc_val k q2).2 d hv
    refine ⟨a, v, e1, ?_, kk v H2 o2 (x1.trans x2) e5⟩
    rw [e2, ← e4]
    exact .t q1 (hide_some e3).2
theorem x_notinT (hk : EvX C ty M δ μ μ1 (.h (k.map .int))) (hx : EvX C td M δ μ1 μ2 (.m a)) (hm : (a, .dT (kt l)) ∈ μ2) : EvX C (tDNotIn ty td) M δ μ μ2 (.d (.bool (!(valT l k).isSome))) := fun σ H o Q kk =>
  hk σ H o _ fun y H1 o1 x1 r1 => hx σ H1 o1 _ fun x H2 o2 x2 r2 => by
    have e1 : x = .ref a := r2
    obtain ⟨b, e2, e3⟩ := key_at (EntOk.mono x2 r1)
    obtain ⟨_, _, ws, q1, q2⟩ := o2.mem _ hm
    refine ⟨a, valV ws (k.map Sum.inl), e1, ?_, ?_⟩
    · rw [e2]
      exact .t q1 (hide_some e3).2
    · have e4 : (valV ws (k.map Sum.inl)).isSome = (valT l k).isSome := by
        obtain ⟨i1, i2⟩ := tc_val k q2
        cases z : valT l k with
        | none => rw [i1 z]; rfl
        | some d =>
          obtain ⟨v, e5, _⟩ := i2 d z
          rw [e5]; rfl
      rw [e4]
      exact kk _ H2 o2 (x1.trans x2) (.bl _)
theorem r_dputT (h : EvX C te M δ μ μ1 (.d d)) (hx : EvX C ta M δ μ1 μ2 (.m a)) (hi : EvX C tb M δ μ2 μ3 (.h (k.map .int))) (hj : μ3[j]? = some (a, .dT (kt l))) (hk : valT l k = none) (hl : l.length < 1000) (kk : Nx C D M δ (μ3.set j (a, .dT (kt (l ++ [(k, d)]))))) :
    Run C (tAsg te (gSub ta tb rSetD)) D M δ μ := fun σ H o => h σ H o _ fun v H1 o1 x1 r1 => hx σ H1 o1 _ fun w H2 o2 x2 r2 => hi σ H2 o2 _ fun z H3 o3 x3 r3 => by
  have e1 : w = .ref a := r2
  obtain ⟨b, e2, e3⟩ := key_at r3
  obtain ⟨_, _, ws, q3, q4⟩ := o3.mem _ (List.mem_of_getElem? hj)
  show ∃ a' H', w = .ref a' ∧ DPut H3 a' z v H' ∧ D.nx σ H'
  refine ⟨a, upd H3 a (.dT (putK ws (k.map Sum.inl) v)), e1, ?_, ?_⟩
  · rw [e2]
    exact .t q3 (hide_some e3).2 (sz_lt (by rw [tc_len q4]; omega))
  · exact kk _ _ (o3.write hj ⟨_, upd_same, tc_snoc q4 hk (EntOk.mono (e := .d d) (x2.trans x3) r1)⟩)
/-! ### x.extend(list) -/
theorem r_ext {ds es : List PyData} (hx : EvX C ta M δ μ μ1 (.m a)) (h1 : μ1[j]? = some (a, .lst ds)) (h : EvX C te M δ μ1 μ2 (.l es)) (hj : μ2[j]? = some (a, .lst ds)) (hz : ds.length + es.length ≤ 100000) (k : Nx C D M δ (μ2.set j (a, .lst (ds ++ es)))) :
    Run C (tDrop (tBM C.K "list" rExtend ta (tCons te tNil))) D M δ μ := fun σ H o => hx σ H o _ fun v H1 o1 x1 r1 => by
  have e1 : v = .ref a := r1
  subst e1
  obtain ⟨_, _, vs1, q1, q2⟩ := o1.mem _ (List.mem_of_getElem? h1)
  refine ⟨.inl ⟨rfl, _, SqL.of q1⟩, ?_⟩
  refine h σ H1 o1 _ fun w H2 o2 x2 r2 => ?_
  obtain ⟨_, _, vs, q3, q4⟩ := o2.mem _ (List.mem_of_getElem? hj)
  obtain ⟨b, zs, e2, e3, e4⟩ := r2
  refine ⟨a, b, vs, zs, rfl, by rw [e2], q3, (hide_some e3).2, sz_of (by rw [q4.length, e4.length]; exact hz), ?_⟩
  refine k _ _ (o2.write hj ⟨_, upd_same, q4.append e4⟩)
/-! ### return f(x, .., {}) -/
theorem r_retNewT {R : List Ent → Mem → PyData → Mem → Prop} {E : XK} {t1 : TE} {e1 e2 : Ent} {kvs' : MO} (h1 : EvX C t1 M δ μ μ1 e1) (h2 : EvX C te M δ μ1 μ2 e2) (hR : ∀ p, R [e1, e2, .m p] [(p, .dT [])] d [(p, kvs')]) (fin : FinE C D d []) :
    Run C (tRet (tCall (spE C.K 3 R) [] E (tCons t1 (tCons te (tCons tDNewT tNil))))) D M δ μ := fun σ H o =>
  h1 σ H o _ fun v H1 o1 x1 r1 => h2 σ H1 o1 _ fun w H2 o2 x2 r2 => fun p hp => by
    have o3 := o2.new hp (mo := .dT []) (ho := .dT []) ⟨[], upd_same, .nil⟩
    have x3 : Ex (hide M H2) (hide (p :: M) (upd H2 p (.dT []))) := hide_new hp
    show spE C.K 3 R ([v, w, .ref p] ++ []) _ _ E
    rw [List.append_nil]
    refine ⟨rfl, p :: M, [e1, e2, .m p], [(p, .dT [])], d, [(p, kvs')], o3.alloc, .cons ((r1.mono x2).mono x3) (.cons (r2.mono x3) (.cons rfl .nil)), fun q hq => ?_, by simp, rfl, hR p, fun u H4 e4 m4 d4 => ?_⟩
    · rw [List.mem_singleton.mp hq]
      exact ⟨List.mem_cons_self, ⟨[], upd_same, .nil⟩⟩
    · have g4 : Ex C.G H4 := fun a u z => by
        refine e4 a u ?_
        have z2 := o2.gr a u z
        have ne : a ≠ p := ne_of_none z2 hp
        rw [hide_out (by simpa using ne), upd_ne ne]
        exact z2
      exact fin u (p :: M) H4 g4 (fun a ha => List.mem_cons_of_mem _ (o2.sub a ha)) (fun q hq => absurd hq (by simp)) d4
end
end FD
/-! rows whose objects have no dict: made, cut, put together, asked for a place; walked beside places -/
namespace FD
open PySem PySem.Spec L2 Evl PyProof.Rows
def rTupF (K : PySem.W.Frag) : List V → Hp → VK → Prop := fun xs H Q => ∃ p ys, xs = [.ref p] ∧ SqL K H p ys ∧ ∀ l o, plO o → H l = none → Q (.ref l) (upd H l (.frz o (.tup ys)))
def rSlF (K : PySem.W.Frag) : V → Option Int → Option Int → Hp → VK → Prop := fun x lo hi H Q => ∃ a xs, x = .ref a ∧ SqT K H a xs ∧
  (HT.sIx xs.length 0 lo = 0 ∧ HT.sIx xs.length xs.length hi = xs.length → Q (.ref a) H) ∧ (¬ (HT.sIx xs.length 0 lo = 0 ∧ HT.sIx xs.length xs.length hi = xs.length) → ∀ p o, plO o → H p = none → Q (.ref p) (upd H p (.frz o (.tup (cutV xs lo hi)))))
def rCatF (K : PySem.W.Frag) : R2 := fun x y H Q => ∃ a b xs ys, x = .ref a ∧ y = .ref b ∧ SqT K H a xs ∧ SqT K H b ys ∧ xs.length + ys.length ≤ sizeLine ∧
  (xs = [] → Q (.ref b) H) ∧ (xs ≠ [] → ys = [] → Q (.ref a) H) ∧ (xs ≠ [] → ys ≠ [] → ∀ p o, plO o → H p = none → Q (.ref p) (upd H p (.frz o (.tup (xs ++ ys)))))
section
variable {X : Cx}
theorem cr_tupF : CallR X (.type "tuple") (rTupF X.K) := by
  intro pins s σ H xs us Q I r h
  obtain ⟨p, ys, rfl, hq, q⟩ := h
  obtain rfl := Vals.ref1 r
  obtain ⟨its, r', pl, hz⟩ := I.list hq
  have hlen := r'.length
  refine call_tuple_list pl.isList (fun h' kp => ?_) (by simp only [List.size_toArray] <;> omega)
  have I1 : Inv X pins σ H { s with heap := h' } := I.kept (t' := s.toks) kp
  have I2 : Inv X pins σ (upd H h'.objs.size (.frz { cls := .type "tuple", data := .seq its.toArray } (.tup ys))) { s with heap := h'.push { cls := .type "tuple", data := .seq its.toArray } } :=
    I1.laid (t' := s.toks) (fun b o e => Heap.get?_push_of_some _ e) (Nat.le_refl _) (show ObjOk X.prog X.w _ _ _ (.frz _ (.tup ys)) from ⟨Heap.get?_push_size _ rfl, hz, its, r', IsTup.new _ _⟩)
  exact ⟨.ref h'.objs.size, _, I2, rfl, q _ _ ⟨rfl, rfl⟩ (I1.hok.fresh (Nat.le_refl _))⟩
theorem sl_F : SlR X (rSlF X.K) := by
  intro pins s σ H x v vl vu lo hi sl Q I rx hs pl pu h
  obtain ⟨a, xs, rfl, hx, q1, q2⟩ := h
  cases rx
  obtain ⟨its, r, ht, hz⟩ := I.tuple hx
  have hlen : its.toArray.size = xs.length := by rw [List.size_toArray]; exact r.length.symm
  refine ⟨"tuple", _, PyProof.Rows.slot_tuple_getitem.lookup, ht.typeIs, ?_⟩
  by_cases hw : HT.sIx xs.length 0 lo = 0 ∧ HT.sIx xs.length xs.length hi = xs.length
  · exact getItem_tuple_whole ht hs pl pu (by rw [hlen]; exact hw) ⟨.ref a, H, I, rfl, q1 hw⟩
  · refine HT.getItem_tuple_cut ht hs pl pu (by rw [hlen]; exact hw) ?_ (by rw [hlen]; exact hz)
    rw [hlen]
    refine ⟨.ref s.heap.objs.size, _, I.laid (t' := s.toks) (o := .frz { cls := .type "tuple", data := .seq ((its.drop (HT.sIx xs.length 0 lo)).take (HT.sIx xs.length xs.length hi - HT.sIx xs.length 0 lo)).toArray } (.tup (cutV xs lo hi))) (fun b ob z => Heap.get?_push_of_some _ z) (Nat.le_refl _) ?_, rfl, q2 hw _ _ ⟨rfl, rfl⟩ (I.hok.fresh (Nat.le_refl _))⟩
    exact ⟨Heap.get?_push_size _ rfl, Nat.le_trans (cutV_length xs lo hi) hz, _, (r.drop (HT.sIx xs.length 0 lo)).take (HT.sIx xs.length xs.length hi - HT.sIx xs.length 0 lo), IsTup.new _ _⟩
theorem op_catF : OpR X (binaryOp .Add) (rCatF X.K) := by
  intro pins s σ H x y v u Q I rx ry h
  obtain ⟨a, b, xs, ys, rfl, rfl, ha, hb, hz, q0, q1, q2⟩ := h
  cases rx
  cases ry
  obtain ⟨its, r1, p1, _⟩ := I.tuple ha
  obtain ⟨its2, r2, p2, _⟩ := I.tuple hb
  by_cases hx : xs = []
  · subst hx
    cases r1
    exact cat_tup0 p1 p2 ⟨.ref b, H, I, rfl, q0 rfl⟩
  · refine HT.cat_tup p1 p2 (fun z => hx (r1.nil_iff.mp z)) (fun z => ⟨.ref a, H, I, rfl, q1 hx (r2.nil_iff.mp z)⟩) (fun z => ?_) (by rw [← r1.length, ← r2.length]; exact hz)
    refine ⟨.ref s.heap.objs.size, _, I.laid (t' := s.toks) (o := .frz { cls := .type "tuple", data := .seq (its ++ its2).toArray } (.tup (xs ++ ys))) (fun b ob q => Heap.get?_push_of_some _ q) (Nat.le_refl _) ?_, rfl, q2 hx (fun w => z (r2.nil_iff.mpr w)) _ _ ⟨rfl, rfl⟩ (I.hok.fresh (Nat.le_refl _))⟩
    exact ⟨Heap.get?_push_size _ rfl, by rw [List.length_append]; exact hz, _, r1.append r2, IsTup.new _ _⟩
/-! ### a method of such a row -/
def tBMt (K : PySem.W.Frag) (r : V → List V → Hp → VK → Prop) (to : TE) (t : TA) : TE := fun σ H Q => to σ H fun x H1 => (∃ p o ys, x = .ref p ∧ H1 p = some (.frz o (.tup ys)) ∧ plO o) ∧ t σ H1 fun xs H2 => r x xs H2 Q
section
variable {name : Str} {id : String} {r : V → List V → Hp → VK → Prop} {o e : Expr} {es : List Expr} {to : TE} {t : TA} {apos cpos : Pos}
theorem pe_bmt (pa : PlainAttrs "tuple") (slot : Slot "tuple" name id) (hty : typeOf (.builtin id) = pure (.type "method_descriptor")) (hm : MtR X id r) (ho : PE X o to) (ha : PA X (e :: es) t)
    (hbase : attributeBase o name X.env (eval o X.env) = eval o X.env := by rfl)
    (hfew : ((backTo cpos (starEach (e :: es) X.env)).all (fun x => !x.1) && (backToKw cpos (keywordEach [] X.env)).all (fun x => x.1.isSome)
      && decide ((e :: es).length + ([] : List Keyword).length + (if ([] : List Keyword).isEmpty then 0 else 1) < 30)) = true := by rfl)
    (hline : (apos.endLine == cpos.line) = true := by rfl) (hs : starEach (e :: es) X.env = (false, eval e X.env) :: starEach es X.env := by rfl) (hpl : (backTo cpos (starEach es X.env)).any (·.1) = false := by rfl) :
    PE X (.Call (.Attribute o name apos) (e :: es) [] cpos) (tBMt X.K r to t) := by
  refine ⟨fun pins s σ H Q I h => ?_⟩
  refine wpAny_Call_method_late hbase hfew hline rfl (thn (ho.run pins s σ H _ I h) fun v s1 ⟨x, H1, I1, r1, ⟨p, ob, ys, ex, hp, hc, hd⟩, q1⟩ => ?_)
  have hob : s1.heap.get? p = some ob := (show ObjOk X.prog X.w H1 s1.heap p (.frz ob (.tup ys)) from I1.hok p _ hp).1
  have rv : v = .ref p := by rw [ex] at r1; exact r1
  refine ⟨"tuple", id, pa, slot, hty, by rw [rv]; exact ⟨ob, hob, hc⟩, fun a z => ?_, ?_⟩
  · rw [rv] at z
    cases z
    exact ⟨ob, hob, hd⟩
  · have hA := ha.run cpos pins s1 σ H1 _ I1 q1
    rw [hs] at hA ⊢
    refine Calls.callWith_builtin (by show (false || (backTo cpos (starEach es X.env)).any (·.1)) = false; rw [hpl] <;> rfl) (Calls.evalArgs_plain ?_)
    exact thn hA fun us s2 ⟨vs, H2, I2, r2, q2⟩ => hm pins s2 σ H2 x vs v us Q I2 r1 r2 q2
end
end
/-! ### in the layer -/
theorem paired_at {α β : Type} {F : α → β → Prop} {as : List α} {bs : List β} (h : Paired F as bs) : ∀ {i : Nat} {a : α}, as[i]? = some a → ∃ b, bs[i]? = some b ∧ F a b := by
  induction h with
  | nil => intro i a e; simp at e
  | cons r _ ih =>
    intro i a e
    cases i with
    | zero => exact ⟨_, rfl, by have z := e; simp at z; rw [← z]; exact r⟩
    | succ i => simpa using ih (i := i) (a := a) (by simpa using e)
theorem prow_dp {K : PySem.W.Frag} {Hh : Hp} {k : List Str} {v : V} (h : PRow K Hh k v) : Dp K Hh v (rowD k) := by
  obtain ⟨a, e1, e2, _⟩ := h
  rw [e1]
  exact dp_row e2
theorem prows_dp {K : PySem.W.Frag} {Hh : Hp} : ∀ {ks : List (List Str)} {vs : List V}, Paired (PRow K Hh) ks vs → DpAll K Hh vs (ks.map rowD)
  | [], _, .nil => .nil
  | _ :: _, _, .cons h t => .cons (prow_dp h) (prows_dp t)
def cutK (k : List Str) (lo hi : Option Int) : List Str := (k.drop (HT.sIx k.length 0 lo)).take (HT.sIx k.length k.length hi - HT.sIx k.length 0 lo)
theorem cutK_v (k : List Str) (lo hi : Option Int) : cutV (k.map V.str) lo hi = (cutK k lo hi).map V.str := by
  unfold cutV cutK
  rw [List.length_map, List.map_take, List.map_drop]
section
variable {C : Cfg} {M : List Addr} {δ : List Ent} {μ μ1 μ2 μ3 μ' : Mem} {ta tb te td ty : TE} {a b : Addr} {d : PyData} {e : Ent} {tr : TA} {D : Ends} {t2 ts : TS} {i j : Nat} {k k2 : List Str} {ks : List (List Str)}
theorem x_wp (h : EvX C te M δ μ μ1 (.p k)) : EvX C te M δ μ μ1 (.d (.tuple (k.map .str))) := fun σ H o Q kk => h σ H o Q fun v H' o' x r => kk v H' o' x (prow_dp r)
theorem x_wrw (h : EvX C te M δ μ μ1 (.rw ks)) : EvX C te M δ μ μ1 (.d (.tuple (ks.map rowD))) := fun σ H o Q kk => h σ H o Q fun v H' o' x r => by
  obtain ⟨a, vs, e1, e2, e3⟩ := r
  rw [e1]
  exact kk _ H' o' x (.tup (by rw [e1] at *; exact e2) (prows_dp e3))
theorem x_vp (h : δ[i]? = some (.p k)) : EvX C (tVar i) M δ μ μ (.p k) := x_var h (fun z => nomatch z)
theorem x_vpt (h : δ[i]? = some (.p k)) : EvX C (tVar i) M δ μ μ (.d (.tuple (k.map .str))) := x_wp (x_vp h)
theorem x_vrw (h : δ[i]? = some (.rw ks)) : EvX C (tVar i) M δ μ μ (.rw ks) := x_var h (fun z => nomatch z)
theorem ok_frzT {σ : L2.St} {H : Hp} (o : Ok C M δ μ σ H) {p : Addr} {ob : Obj} (hp : H p = none) (po : plO ob) :
    Ok C M δ μ σ (upd H p (.frz ob (.tup (k.map V.str)))) ∧ Ex (hide M H) (hide M (upd H p (.frz ob (.tup (k.map V.str))))) ∧ PRow C.K (hide M (upd H p (.frz ob (.tup (k.map V.str))))) k (.ref p) := by
  have e : Ex H (upd H p (.frz ob (.tup (k.map V.str)))) := Ex.new hp
  have g : hide M (upd H p (.frz ob (.tup (k.map V.str)))) p = some (.frz ob (.tup (k.map V.str))) := by rw [hide_out (o.fresh hp), upd_same]
  exact ⟨o.grow e, hide_ex e, p, rfl, .inl (.inr ⟨ob, g⟩), fun _ => ⟨ob, g, po⟩⟩
theorem c_tupP (r : Rdd μ e (.list (k.map .str))) : CallX C (rTupF C.K) M δ μ μ [e] (.p k) := fun σ H vs o h Q kk => by
  obtain ⟨v, rfl, q⟩ := p1 h
  obtain ⟨p, ws, q1, q2, q3⟩ := r.lst o q
  have e3 := DpAll.strs q3
  subst e3
  refine ⟨p, _, by rw [q1], q2, fun l ob po hl => ?_⟩
  obtain ⟨o', x', d'⟩ := ok_frzT o hl po
  exact kk _ _ o' x' d'
theorem x_slP {tl th : TO} {lo hi : Option Int} (h : EvX C te M δ μ μ1 (.p k)) (hl : EvO C tl M δ μ1 μ2 lo) (hh : EvO C th M δ μ2 μ3 hi) : EvX C (tSl (rSlF C.K) te tl th) M δ μ μ3 (.p (cutK k lo hi)) := fun σ H o Q kk =>
  h σ H o _ fun v H1 o1 x1 r1 => hl σ H1 o1 _ fun H2 o2 x2 => hh σ H2 o2 _ fun H3 o3 x3 => by
    have r3 := PRow.mono (x2.trans x3) r1
    obtain ⟨a, e1, e2, e3⟩ := id r3
    refine ⟨a, k.map V.str, e1, ex_t hide_le e2, fun hw => ?_, fun _ p ob po hp => ?_⟩
    · have ec : cutK k lo hi = k := by
        rw [List.length_map] at hw
        unfold cutK
        rw [hw.1, hw.2, List.drop_zero, Nat.sub_zero, List.take_length]
      rw [← e1]
      refine kk _ H3 o3 ((x1.trans x2).trans x3) ?_
      rw [ec]; exact r3
    · rw [cutK_v]
      obtain ⟨o', x', d'⟩ := ok_frzT (k := cutK k lo hi) o3 hp po
      exact kk _ _ o' (((x1.trans x2).trans x3).trans x') d'
theorem o_catP (hz : k.length + k2.length ≤ 100000) : OpX C (rCatF C.K) M δ μ μ (.p k) (.p k2) (.p (k ++ k2)) := fun σ H x y o h1 h2 Q kk => by
  obtain ⟨a, e1, e2, e3⟩ := id h1
  obtain ⟨b, f1, f2, f3⟩ := id h2
  refine ⟨a, b, k.map V.str, k2.map V.str, e1, f1, ex_t hide_le e2, ex_t hide_le f2, ?_, fun z => ?_, fun _ z => ?_, fun _ _ p ob po hp => ?_⟩
  · rw [List.length_map, List.length_map]; exact sz_of hz
  · have z : k = [] := List.map_eq_nil_iff.mp z
    rw [← f1]
    exact kk y H o (Ex.refl _) (by rw [z]; exact h2)
  · have z : k2 = [] := List.map_eq_nil_iff.mp z
    rw [← e1]
    exact kk x H o (Ex.refl _) (by rw [z, List.append_nil]; exact h1)
  · rw [← List.map_append]
    obtain ⟨o', x', d'⟩ := ok_frzT (k := k ++ k2) o hp po
    exact kk _ _ o' x' d'
/-- () -/
theorem x_nilP : EvX C (tTup tNil) M δ μ μ (.p []) := fun σ H o Q kk => ⟨sz_of (Nat.zero_le _), fun p hp => by
  obtain ⟨o', x', d'⟩ := o.tup (ds := []) hp .nil
  obtain ⟨a, e1, e2⟩ := row_dp (k := []) d'
  exact kk _ _ o' x' ⟨a, e1, e2, fun z => absurd rfl z⟩⟩
/-- (u, v) -/
theorem x_rw2 (h1 : EvX C ta M δ μ μ1 (.p k)) (h2 : EvX C tb M δ μ1 μ2 (.p k2)) : EvX C (tTup (tCons ta (tCons tb tNil))) M δ μ μ2 (.rw [k, k2]) := fun σ H o Q kk =>
  h1 σ H o _ fun v H1 o1 x1 r1 => h2 σ H1 o1 _ fun w H2 o2 x2 r2 => ⟨sz_of (by show 2 ≤ 100000; decide), fun p hp => by
    have r1' := PRow.mono x2 r1
    obtain ⟨o', x', d'⟩ := o2.tup (ds := [rowD k, rowD k2]) hp (.cons (prow_dp r1') (.cons (prow_dp r2) .nil))
    refine kk _ _ o' ((x1.trans x2).trans x') ⟨p, [v, w], rfl, st_of ?_, .cons (r1'.mono x') (.cons (PRow.mono x' r2) .nil)⟩
    rw [hide_out (o2.fresh hp), upd_same]⟩
/-- [u, v][i] -/
theorem x_oneOf {n : Int} (h1 : EvX C ta M δ μ μ1 (.p k)) (h2 : EvX C tb M δ μ1 μ2 (.p k2)) (h3 : EvX C te M δ μ2 μ3 (.d (.int n))) (hn : n = 0 ∨ n = 1) : EvX C (tOp (rIxL C.K) (tLst (tCons ta (tCons tb tNil))) te) M δ μ μ3 (.p (if n = 0 then k else k2)) := fun σ H o Q kk =>
  h1 σ H o _ fun v H1 o1 x1 r1 => h2 σ H1 o1 _ fun w H2 o2 x2 r2 => ⟨sz_of (by show 2 ≤ 100000; decide), fun p hp => by
    have r1' := PRow.mono x2 r1
    have g : Ex H2 (upd H2 p (.lst [v, w])) := Ex.new hp
    have o3 := o2.grow g
    refine h3 σ _ o3 _ fun z H4 o4 x4 r4 => ?_
    have e4 := Dp.int_of r4
    have r1'' := (r1'.mono (hide_ex g)).mono x4
    have r2'' := (PRow.mono (hide_ex g) r2).mono x4
    have l4 : SqL C.K H4 p [v, w] := by
      have q : hide M (upd H2 p (.lst [v, w])) p = some (.lst [v, w]) := by rw [hide_out (o2.fresh hp), upd_same]
      exact SqL.of (hide_some (x4 p _ q)).2
    rcases hn with rfl | rfl
    · exact ⟨p, [v, w], 0, v, rfl, e4, l4, rfl, kk _ H4 o4 (((x1.trans x2).trans (hide_ex g)).trans x4) (by rw [if_pos rfl]; exact r1'')⟩
    · exact ⟨p, [v, w], 1, w, rfl, e4, l4, rfl, kk _ H4 o4 (((x1.trans x2).trans (hide_ex g)).trans x4) (by rw [if_neg (by decide)]; exact r2'')⟩⟩
abbrev rTIndex (K : PySem.W.Frag) : V → List V → Hp → VK → Prop := fun x xs H Q => ∃ p, ∃ ys : List Str, ∃ z j, x = .ref p ∧ xs = [.str z] ∧ SqT K H p (ys.map V.str) ∧ ys[j]? = some z ∧ (∀ m, m < j → ys[m]? ≠ some z) ∧ Q (.int (j : Nat)) H
theorem x_tindex {z : Str} {n : Nat} (hx : EvX C ta M δ μ μ1 (.p k)) (h : EvX C te M δ μ1 μ2 (.d (.str z))) (h1 : k[n]? = some z) (h2 : ∀ m, m < n → k[m]? ≠ some z) :
    EvX C (tBMt C.K (rTIndex C.K) ta (tCons te tNil)) M δ μ μ2 (.d (.int (n : Nat))) := fun σ H o Q kk => hx σ H o _ fun v H1 o1 x1 r1 => by
  obtain ⟨p, e1, e2, e3⟩ := r1
  obtain ⟨ob, g, po⟩ := e3 (fun z => by rw [z] at h1; cases h1)
  refine ⟨⟨p, ob, _, e1, (hide_some g).2, po⟩, ?_⟩
  refine h σ H1 o1 _ fun u H2 o2 x2 r2 => ?_
  exact ⟨p, k, z, n, e1, by rw [Dp.str_of r2], ex_t hide_le (ex_t x2 e2), h1, h2, kk _ H2 o2 (x1.trans x2) (.int _)⟩
/-- rows in order, made plain -/
theorem rows_prow {K : PySem.W.Frag} {Hh : Hp} : ∀ {ks : List (List Str)} {vs : List V}, Paired (PRow K Hh) ks vs → ∃ qs : Mbs, vs = (qs.map fun q => V.ref q.1) ∧ qs.map (·.2) = ks ∧ ∀ q ∈ qs, PRow K Hh q.2 (.ref q.1)
  | [], _, .nil => ⟨[], rfl, rfl, fun q hq => absurd hq (by simp)⟩
  | k :: ks, _, .cons (l₂ := vs) h t => by
    obtain ⟨qs, e1, e2, e3⟩ := rows_prow (ks := ks) t
    obtain ⟨a, e4, e5⟩ := id h
    refine ⟨(a, k) :: qs, by rw [e1, e4]; rfl, by rw [List.map_cons, e2], fun q hq => ?_⟩
    rcases List.mem_cons.mp hq with z | hq
    · rw [z]; rw [e4] at h; exact h
    · exact e3 q hq
theorem prow_rows {K : PySem.W.Frag} {Hh : Hp} : ∀ {qs : Mbs}, (∀ q ∈ qs, PRow K Hh q.2 (.ref q.1)) → Paired (PRow K Hh) (qs.map (·.2)) (qs.map fun q => V.ref q.1)
  | [], _ => .nil
  | q :: qs, h => .cons (h q List.mem_cons_self) (prow_rows fun r hr => h r (List.mem_cons_of_mem _ hr))
/-- for row, place in zip(rows, places) -/
theorem r_forZ {ps : List Int} {i1 i2 : Nat} (hr : EvA C tr M δ μ μ1 [.rw ks, .d (.tuple (ps.map .int))]) (hl : ks.length = ps.length) (Pv : Nat → List Ent → Mem → Prop) (h0 : Pv 0 δ μ1)
    (hs : ∀ B, Ex C.B B → ∀ (i : Nat) (k : List Str) (p : Int) (δ1 : List Ent) (μ1 : Mem), ks[i]? = some k → ps[i]? = some p → Pv i δ1 μ1 →
      Run { C with B := B } ts { D with nx := NX { C with B := B } M (Pv (i + 1)), ct := NX { C with B := B } M (Pv (i + 1)), bk := D.nx } M ((δ1.set i1 (.p k)).set i2 (.d (.int p))) μ1)
    (hd : ∀ δ1 μ1, Pv ks.length δ1 μ1 → Nx C D M δ1 μ1) : Run C (tFor (RZ.iZipA C.K tr) (gTup C.K 2 (gCons (gName i1) (gCons (gName i2) gNil))) ts) D M δ μ := fun σ H o => by
  refine hr σ H o _ fun vs H1 o1 x1 r => ?_
  obtain ⟨v, w, rfl, q, q'⟩ := p2 r
  obtain ⟨a, xs, g1, g2, g3⟩ := q
  obtain ⟨b, ys, g4, g5, g6⟩ := Dp.tup_of q'
  have g7 := DpAll.ints g6
  subst g7
  have hx : xs.length = ks.length := (paired_len g3).symm
  refine ⟨a, b, xs, _, by rw [g1, g4], .inr ⟨ex_t hide_le g2, ex_t hide_le g5, ?_⟩⟩
  refine ⟨fun i m σ' H' => m = ks.length - i ∧ i ≤ ks.length ∧ NX { C with B := hide M H1 } M (Pv i) σ' H', ⟨ks.length, by simp, Nat.zero_le _, δ, μ1, h0, o1.toB⟩, ?_⟩
  rintro i m σ' H' ⟨rfl, hi', δ1, μ2, hP, oi⟩
  have sa : SqT C.K H' a xs := ex_t hide_le (ex_t oi.base g2)
  have sb : SqT C.K H' b (ps.map V.int) := ex_t hide_le (ex_t oi.base g5)
  by_cases hlt : i < ks.length
  · have ex : xs[i]? = some xs[i] := List.getElem?_eq_getElem (by omega)
    have ek : ks[i]? = some ks[i] := List.getElem?_eq_getElem hlt
    have ep : ps[i]? = some ps[i] := List.getElem?_eq_getElem (by omega)
    have ey : (ps.map V.int)[i]? = some (V.int ps[i]) := by rw [List.getElem?_map, ep]; rfl
    refine .inr ⟨⟨xs, ps.map V.int, _, _, sa, sb, ex, ey⟩, NX { C with B := hide M H1 } M (Pv (i + 1)), fun σ2 H2 q => ⟨ks.length - (i + 1), by omega, rfl, hlt, q⟩, fun x H2 y => ?_⟩
    obtain ⟨T, x', y', rfl, hT, rfl, qx, qy⟩ := y
    have e1 := qx xs sa
    rw [ex] at e1; cases e1
    have e2 := qy _ sb
    rw [ey] at e2; cases e2
    have eT : Ex H' (upd H' T (.tup [xs[i], .int ps[i]])) := Ex.new hT
    have o2 := oi.grow eT
    have pr : PRow C.K (hide M H1) ks[i] xs[i] := by
      obtain ⟨u, hu, q⟩ := paired_at g3 ek
      rw [ex] at hu; cases hu
      exact q
    refine ⟨T, _, rfl, SqT.of upd_same, rfl, _, _, rfl, _, _, rfl, rfl, ?_⟩
    refine hs (hide M H1) o1.base i _ _ δ1 μ2 ek ep hP _ _ ?_
    exact (o2.set i1 (e := .p ks[i]) (PRow.mono (oi.base.trans (hide_ex eT)) pr)).set i2 (e := .d (.int ps[i])) (.int _)
  · have ei : i = ks.length := by omega
    subst ei
    exact .inl ⟨⟨xs, ps.map V.int, sa, sb, .inl (by omega)⟩, hd δ1 μ2 hP σ' H' (oi.reB o1.base)⟩
end
end FD
/-! promises that hand back any entry; rows in order, made plain; a table of one's own; texts -/
namespace FD
open PySem PySem.Spec L2 Evl PyProof.Rows
def spG (K : PySem.W.Frag) (n : Nat) (R : List Ent → Mem → Ent → Mem → Prop) : Sp := fun vs H Q _ => vs.length = n ∧ ∃ M es μ e μ', (∀ a ∈ M, H a ≠ none) ∧ Paired (EntOk K (hide M H)) es vs ∧ (∀ p ∈ μ, p.1 ∈ M ∧ MOok K (hide M H) H p.1 p.2) ∧ (ad μ).Nodup ∧ ad μ' = ad μ ∧ R es μ e μ' ∧
  ∀ v H', Ex (hide (ad μ) H) H' → (∀ p ∈ μ', MOok K (hide M H') H' p.1 p.2) → EntOk K (hide M H') e v → Q v H'
def FinG (C : Cfg) (D : Ends) (e : Ent) (μ' : Mem) : Prop := ∀ v M' H, Ex C.G H → (∀ a ∈ C.M0, a ∈ M') → (∀ p ∈ μ', MOok C.K (hide M' H) H p.1 p.2) → EntOk C.K (hide M' H) e v → D.rt v H
section
variable {P : Program} {w : World} {K : PySem.W.Frag} {mg : Str → Option Value} {base : Heap}
theorem def_G {x qual : Str} {st : Stmt} {f : Addr} {fd : FuncData} {N ps : List Str} {k n : Nat} {R : List Ent → Mem → Ent → Mem → Prop} (F : Fun K x qual st f fd) (S : FnScope N ps (defScope st)) (hN : ps.length ≤ N.length) (hp : ps.length = n)
    (h : ∀ (cdv : Value) (A : Around) (outer : List Env) (s : Shared) (H : Hp) (E : XK), Room k (A.deeper (PyProof.Rows.envOfC qual (defScope st) s.heap.objs.size f cdv)) →
      ∃ t, PSs (cxOf CX0 P w K mg base N qual (defScope st) f cdv A outer s H E).nox (defBody st) t ∧
        ∀ (M : List Addr) (G B : Hp) (es : List Ent) (μ : Mem) (e : Ent) (μ' : Mem), R es μ e μ' → ∀ D : Ends, FinG ⟨K, M, G, B⟩ D e μ' → Run ⟨K, M, G, B⟩ t D M (startE N.length es.length es) μ) :
    FnOk P w K mg base CX0 (k + 1) f fd ps (spG K n R) := by
  refine F.ok S (fun vs H Q E hs => hs.1.trans hp.symm) fun cdv A outer s H vs Q E hr hs => ?_
  obtain ⟨hn, M, es, μ, e, μ', al, he, hm, nd, had, hR, kk⟩ := hs
  obtain ⟨t, ht, run⟩ := h cdv A outer s H E hr
  refine ⟨t, ht, run M (hide (ad μ) H) (hide M H) es μ e μ' hR _ (fun v M' H' g s m r => kk v H' g (fun p hp => (m p hp).mono (hide_sub s) fun _ q => q) (r.mono (hide_sub s))) _ _ (ok_startE al he hm nd (by rw [hn, ← hp]; exact hN))⟩
end
section
variable {C : Cfg} {M : List Addr} {δ : List Ent} {μ μ0 μ0' μ1 μ2 μ3 μ' : Mem} {tr : TA} {te ta tb : TE} {D : Ends} {t2 : TS} {i j n : Nat} {a b : Addr} {mo mo' : MO} {es : List Ent} {d : PyData} {e : Ent} {E : XK}
theorem x_callG {R : List Ent → Mem → Ent → Mem → Prop} (h : EvA C tr M δ μ μ1 es) (w : Swap μ0 μ0' μ1 μ2) (nd : (ad μ0).Nodup) (hR : R es μ0 e μ0') (hn : es.length = n := by rfl) : EvX C (tCall (spG C.K n R) [] E tr) M δ μ μ2 e := fun σ H o Q k =>
  h σ H o _ fun vs H1 o1 x1 r1 => by
    rw [List.append_nil]
    refine ⟨by rw [← paired_len r1]; exact hn, M, es, μ0, e, μ0', o1.alloc, r1, fun p hp => let q := o1.mem p (w.sub p hp); ⟨q.1, q.2.2⟩, nd, w.ad0, hR, fun v H2 e2 m2 d2 => ?_⟩
    obtain ⟨o2, x2⟩ := after_E o1 w e2 m2
    exact k v H2 o2 (x1.trans x2) d2
theorem swap_nil (μ : Mem) : Swap [] [] μ μ := ⟨fun p hp => absurd hp (by simp), rfl, rfl, fun p hp => .inr ⟨hp, by simp⟩⟩
theorem x_callG0 {R : List Ent → Mem → Ent → Mem → Prop} (h : EvA C tr M δ μ μ1 es) (hR : R es [] e []) (hn : es.length = n := by rfl) : EvX C (tCall (spG C.K n R) [] E tr) M δ μ μ1 e := x_callG h (swap_nil μ1) (by simp) hR hn
/-- one object, changed -/
theorem x_callG1 {R : List Ent → Mem → Ent → Mem → Prop} (j : Nat) (h : EvA C tr M δ μ μ1 es) (nd : ∀ σ H, Ok C M δ μ1 σ H → (ad μ1).Nodup) (hj : μ1[j]? = some (b, mo)) (hR : R es [(b, mo)] e [(b, mo')]) (hn : es.length = n := by rfl) : EvX C (tCall (spG C.K n R) [] E tr) M δ μ (μ1.set j (b, mo')) e := fun σ H o Q k =>
  h σ H o _ fun vs H1 o1 x1 r1 => by
    rw [List.append_nil]
    refine ⟨by rw [← paired_len r1]; exact hn, M, es, [(b, mo)], e, [(b, mo')], o1.alloc, r1, fun p hp => by rw [List.mem_singleton.mp hp]; let q := o1.mem _ (List.mem_of_getElem? hj); exact ⟨q.1, q.2.2⟩, by simp, rfl, hR, fun v H2 e2 m2 d2 => ?_⟩
    obtain ⟨o2, x2⟩ := after_E o1 (swap_set hj o1.nd) e2 m2
    exact k v H2 o2 (x1.trans x2) d2
theorem x_callE1w {R : List Ent → Mem → PyData → Mem → Prop} (j : Nat) (h : EvA C tr M δ μ μ1 es) (hj : μ1[j]? = some (b, mo)) (hR : R es [(b, mo)] d [(b, mo')]) (hn : es.length = n := by rfl) : EvX C (tCall (spE C.K n R) [] E tr) M δ μ (μ1.set j (b, mo')) (.d d) := fun σ H o Q k =>
  h σ H o _ fun vs H1 o1 x1 r1 => by
    rw [List.append_nil]
    refine ⟨by rw [← paired_len r1]; exact hn, M, es, [(b, mo)], d, [(b, mo')], o1.alloc, r1, fun p hp => by rw [List.mem_singleton.mp hp]; let q := o1.mem _ (List.mem_of_getElem? hj); exact ⟨q.1, q.2.2⟩, by simp, rfl, hR, fun v H2 e2 m2 d2 => ?_⟩
    obtain ⟨o2, x2⟩ := after_E o1 (swap_set hj o1.nd) e2 m2
    exact k v H2 o2 (x1.trans x2) d2
theorem r_retG (h : EvX C te M δ μ μ1 e) (hs : ∀ p ∈ μ', p ∈ μ1) (k : FinG C D e μ') : Run C (tRet te) D M δ μ := fun σ H o => h σ H o _ fun v H1 o1 x1 r =>
  k v M H1 o1.gr o1.sub (fun p hp => (o1.mem p (hs p hp)).2.2) r
/-! ### rows in order, plain -/
theorem x_inordP {rs : List (List Str)} (h : EvX C ta M δ μ μ1 (.rw rs)) (hl : rs.length < 64) :
    EvX C (tCB (rTupleS C.K) (tCons (tSortLen C.K (tSTt C.K ta)) tNil)) M δ μ μ1 (.rw (ordT rs)) := fun σ H o Q k => by
  show ta σ H _
  refine h σ H o _ fun v H1 o1 x1 r1 => ?_
  obtain ⟨l, vs, ev, hs, hd⟩ := r1
  obtain ⟨ks, e1, e2, e3⟩ := rows_prow hd
  subst e1 e2
  have st : ∀ q ∈ ks, SqT C.K (hide M H1) q.1 (q.2.map V.str) := fun q hq => by
    obtain ⟨a, z1, z2, _⟩ := e3 q hq
    cases z1
    exact z2
  rw [List.length_map] at hl
  refine ⟨l, ks, ev, .inr (ex_t hide_le hs), fun q hq => ex_t hide_le (st q hq), hl, fun p L sub cov nd asc hp => ?_⟩
  have eL : L.map (·.2) = ordS (ks.map (·.2)) := by
    refine asc_one asc (ordS_asc _) ((perm_rows nd (onceR_nodup _) fun x => ?_).trans (ordS_perm _).symm)
    rw [onceR_mem]
    constructor
    · intro z
      obtain ⟨q, hq, e⟩ := List.mem_map.mp z
      exact List.mem_map.mpr ⟨q, sub q hq, e⟩
    · intro z
      obtain ⟨q, hq, e⟩ := List.mem_map.mp z
      rw [← e]; exact cov q hq
  have g1 : Ex H1 (upd H1 p (.lst (L.map fun q => V.ref q.1))) := Ex.new hp
  have o2 := o1.grow g1
  refine ⟨p, L.map fun q => (V.ref q.1, q.2.length), rfl, ?_, fun y hy => ?_, fun p2 hp2 => ?_⟩
  · rw [List.map_map]
    exact SqL.of upd_same
  · obtain ⟨q, hq, e⟩ := List.mem_map.mp hy
    rw [← e]
    exact ⟨q.1, q.2.map V.str, rfl, ex_t g1 (ex_t hide_le (st q (sub q hq))), List.length_map _⟩
  · have eb : byLen V (L.map fun q => (V.ref q.1, q.2.length)) = (byLen (Addr × List Str) (L.map fun q => (q, q.2.length))).map fun p => (V.ref p.1.1, p.2) := by
      rw [← byLen_map (fun q : Addr × List Str => V.ref q.1), List.map_map]
      rfl
    obtain ⟨L3, e4⟩ : ∃ L3, L3 = (byLen (Addr × List Str) (L.map fun q => (q, q.2.length))).map (·.1) := ⟨_, rfl⟩
    have e5 : (byLen V (L.map fun q => (V.ref q.1, q.2.length))).map (·.1) = L3.map fun q => V.ref q.1 := by
      rw [eb, e4, List.map_map, List.map_map]
      rfl
    have e6 : L3.map (·.2) = ordT (ks.map (·.2)) := by
      have z : byLen (List Str) ((L.map (·.2)).map fun k => (k, k.length)) = (byLen (Addr × List Str) (L.map fun q => (q, q.2.length))).map fun p => (p.1.2, p.2) := by
        rw [← byLen_map (fun q : Addr × List Str => q.2), List.map_map, List.map_map]
        rfl
      have z2 := byLen_rows (L.map (·.2))
      rw [z, List.map_map] at z2
      unfold ordT
      rw [← eL, ← z2, e4, List.map_map]
      rfl
    have sub3 : ∀ q ∈ L3, q ∈ L := fun q hq => by
      rw [e4] at hq
      obtain ⟨p, hp, e⟩ := List.mem_map.mp hq
      obtain ⟨r, hr, er⟩ := List.mem_map.mp ((List.mergeSort_perm _ _).mem_iff.mp hp)
      rw [← e, ← er]; exact hr
    rw [e5]
    have g2 : Ex (upd H1 p (.lst (L.map fun q => V.ref q.1))) (upd (upd H1 p (.lst (L.map fun q => V.ref q.1))) p2 (.lst (L3.map fun q => V.ref q.1))) := Ex.new hp2
    have o3 := o2.grow g2
    refine ⟨p2, _, rfl, .inl ⟨SqL.of upd_same, fun l hl => ?_⟩⟩
    have x3 := (hide_ex (M := M) g1).trans (hide_ex g2)
    have pd : Paired (PRow C.K (hide M (upd (upd H1 p (.lst (L.map fun q => V.ref q.1))) p2 (.lst (L3.map fun q => V.ref q.1))))) (L3.map (·.2)) (L3.map fun q => V.ref q.1) := by
      refine prow_rows fun q hq => ?_
      exact PRow.mono x3 (e3 q (sub q (sub3 q hq)))
    obtain ⟨o4, x4, d4⟩ := o3.tup hl (prows_dp pd)
    rw [e6] at pd
    refine k _ _ o4 (((x1.trans (hide_ex g1)).trans (hide_ex g2)).trans x4) ⟨l, _, rfl, st_of ?_, Paired.mapP pd fun _ _ q => PRow.mono x4 q⟩
    rw [hide_out (o3.fresh hl), upd_same]
/-! ### a table: a list of one's own lists -/
def tabM (as : List Addr) (T : List (List Int)) : Mem := List.zipWith (fun a r => (a, MO.lst (r.map .int))) as T
theorem tabM_snoc {b : Addr} {r : List Int} : ∀ {as : List Addr} {T : List (List Int)}, as.length = T.length → tabM (as ++ [b]) (T ++ [r]) = tabM as T ++ [(b, .lst (r.map .int))]
  | [], [], _ => rfl
  | [], _ :: _, h => by cases h
  | _ :: _, [], h => by cases h
  | a :: as, t :: T, h => by
    show _ :: tabM (as ++ [b]) (T ++ [r]) = _ :: (tabM as T ++ _)
    rw [tabM_snoc (by simpa using h)]
theorem tabM_ad : ∀ {as : List Addr} {T : List (List Int)}, as.length = T.length → ad (tabM as T) = as
  | [], [], _ => rfl
  | [], _ :: _, h => by cases h
  | _ :: _, [], h => by cases h
  | a :: as, t :: T, h => by
    show a :: ad (tabM as T) = a :: as
    rw [tabM_ad (by simpa using h)]
theorem tabM_get {as : List Addr} {T : List (List Int)} {n : Nat} {b : Addr} {r : List Int} (h1 : as[n]? = some b) (h2 : T[n]? = some r) : (tabM as T)[n]? = some (b, .lst (r.map .int)) := by
  unfold tabM
  rw [List.getElem?_zipWith, h1, h2]
theorem tabM_len {as : List Addr} {T : List (List Int)} (h : as.length = T.length) : (tabM as T).length = T.length := by
  unfold tabM
  rw [List.length_zipWith, h, Nat.min_self]
theorem tabM_set {b : Addr} {r : List Int} : ∀ {as : List Addr} {T : List (List Int)} {n : Nat}, as[n]? = some b → (tabM as T).set n (b, .lst (r.map .int)) = tabM as (T.set n r)
  | [], _, n, h => by simp at h
  | a :: as, [], n, h => by simp [tabM]
  | a :: as, t :: T, 0, h => by
    have e : a = b := by simpa using h
    subst e
    rfl
  | a :: as, t :: T, n + 1, h => by
    show _ :: (tabM as T).set n _ = _ :: tabM as (T.set n r)
    rw [tabM_set (by simpa using h)]
theorem x_ixR {as : List Addr} {n : Nat} (h : EvX C ta M δ μ μ1 (.m a)) (hi : EvX C tb M δ μ1 μ2 (.d (.int (n : Nat)))) (hm : (a, .rl as) ∈ μ2) (hn : as[n]? = some b) : EvX C (tOp (rIxL C.K) ta tb) M δ μ μ2 (.m b) := fun σ H o Q k =>
  h σ H o _ fun v H1 o1 x1 r1 => hi σ H1 o1 _ fun w H2 o2 x2 r2 => by
    have e1 : v = .ref a := r1
    have q : H2 a = some (.lst (as.map V.ref)) := (o2.mem _ hm).2.2
    exact ⟨a, _, n, .ref b, e1, Dp.int_of r2, SqL.of q, atI_nat (by rw [List.getElem?_map, hn]; rfl), k _ H2 o2 (x1.trans x2) rfl⟩
theorem rep_flat (m : Nat) : (List.replicate m [V.int 0]).flatten = (List.replicate m (0 : Int)).map V.int := by
  induction m with
  | zero => rfl
  | succ m ih => rw [List.replicate_succ, List.flatten_cons, ih, List.replicate_succ]; rfl
/-- x = [[0] * n for _ in ..] -/
theorem r_newTab {wi : TI} {g : TG} {vs : List Nat} {xs : List PyData} {tb : TE} {m : Nat} {ts : List Nat} {δ1 : Nat → List Ent} (hi : EvI C wi M δ μ μ1 xs) (hm : m ≤ 100000) (hz : xs.length ≤ 100000)
    (htg : ∀ (i : Nat) (d : PyData), xs[i]? = some d → TgX C.K g ts d (wipeE δ vs) (δ1 i)) (hts : ∀ k ∈ ts, k ∈ vs)
    (hb : ∀ (i : Nat) (d : PyData), xs[i]? = some d → ∀ (G B : Hp) (M' : List Addr) (μ' : Mem), EvX { C with G := G, B := B } tb M' (δ1 i) μ' μ' (.d (.int (m : Nat))))
    (k : ∀ (p : Addr) (as : List Addr) (M' : List Addr), p ∉ M → (∀ a ∈ as, a ∉ M) → as.length = xs.length → (∀ a ∈ M, a ∈ M') → Nx C D M' (δ.set i (.m p)) ((p, .rl as) :: (tabM as (List.replicate xs.length (List.replicate m 0)) ++ μ1))) :
    Run C (tAsg (tLc wi g tYes (tOp rRep (tLst (tCons (tC (.int 0)) tNil)) tb) vs) (gName i)) D M δ μ := fun σ H o => by
  refine hi σ H o _ fun J H1 o1 x1 W D hD => ?_
  have oB := o1.toB
  have hDM : D ∉ M := o1.fresh hD
  have o2 : Ok { C with B := hide M H1 } (D :: M) δ ((D, .rl []) :: μ1) σ (upd H1 D (.lst [])) := oB.new hD (mo := .rl []) (ho := .lst []) upd_same
  refine ⟨fun i m' H' => m' = xs.length - i ∧ i ≤ xs.length ∧ ∃ (as M' : List Addr), as.length = i ∧ (∀ a ∈ as, a ∉ M) ∧ (∀ a ∈ M, a ∈ M') ∧ Ok { C with B := hide M H1 } M' δ ((D, .rl as) :: (tabM as (List.replicate i (List.replicate m 0)) ++ μ1)) σ H',
    ⟨xs.length, by simp, Nat.zero_le _, [], D :: M, rfl, fun a ha => absurd ha (by simp), fun a ha => List.mem_cons_of_mem _ ha, o2⟩, ?_⟩
  rintro i m' H' ⟨rfl, hi', as, M', hal, haM, hMM, oi⟩
  by_cases hlt : i < xs.length
  · refine .inr ⟨W.go M' i H' hlt oi.alloc oi.base, fun H'' => ∃ (as M' : List Addr), as.length = i + 1 ∧ (∀ a ∈ as, a ∉ M) ∧ (∀ a ∈ M, a ∈ M') ∧ Ok { C with B := hide M H1 } M' δ ((D, .rl as) :: (tabM as (List.replicate (i + 1) (List.replicate m 0)) ++ μ1)) σ H'',
      fun H'' q => ⟨xs.length - (i + 1), by omega, rfl, hlt, q⟩, fun x H2 y => ?_⟩
    obtain ⟨e2, d, hd, dx⟩ := W.yld M' i H' x H2 hlt oi.alloc oi.base y
    have o3 := oi.grow e2
    refine htg i d hd { C with B := hide M H1 } M' _ _ _ _ rfl (o3.wiped vs) dx _ fun σ2 o5 hl2 hσ2 => ⟨wipe_eq (by rw [hl2, wipe_length]) hσ2 hts, ?_⟩
    unfold tYes
    dsimp only
    rw [if_pos rfl]
    refine ⟨sz_of (by simp), fun p hp => ?_⟩
    have g1 : Ex H2 (upd H2 p (.lst [.int 0])) := Ex.new hp
    refine hb i d hd C.G (hide M H1) M' _ σ2 _ (o5.grow g1) _ fun v H4 o7 x7 r7 => ?_
    have q1 : H4 p = some (.lst [.int 0]) := (hide_some (x7 p _ (by rw [hide_out (o5.fresh hp), upd_same]))).2
    refine ⟨p, m, _, rfl, Dp.int_of r7, q1, by omega, by omega, sz_of (by simp; omega), fun q hq => ?_⟩
    rw [Int.toNat_natCast, rep_flat]
    have o8 := o3.swap o7 ((hide_ex g1).trans x7)
    have qM' : q ∉ M' := o8.fresh hq
    have o9 := o8.new hq (mo := .lst ((List.replicate m (0 : Int)).map .int)) (ho := .lst ((List.replicate m (0 : Int)).map V.int)) ⟨_, upd_same, DpAll.of_ints _⟩
    have o10 := o9.write (j := 1) (a := D) (mo := .rl as) (mo' := .rl (as ++ [q])) (ho := .lst ((as ++ [q]).map V.ref)) rfl upd_same
    have hD4 : H4 D = some (.lst (as.map V.ref)) := (o8.mem _ List.mem_cons_self).2.2
    have qD : D ≠ q := fun z => by rw [← z, hD4] at hq; cases hq
    refine ⟨as.map V.ref, by rw [upd_ne qD]; exact hD4, sz_lt (by rw [List.length_map, hal]; omega), as ++ [q], q :: M', by rw [List.length_append, hal]; rfl, fun a ha => ?_, fun a ha => List.mem_cons_of_mem _ (hMM a ha), ?_⟩
    · rcases List.mem_append.mp ha with z | z
      · exact haM a z
      · rw [List.mem_singleton.mp z]
        exact fun y => qM' (hMM q y)
    · have er : List.replicate (i + 1) (List.replicate m (0 : Int)) = List.replicate i (List.replicate m 0) ++ [List.replicate m 0] := by rw [List.replicate_succ']
      have el : as.length = (List.replicate i (List.replicate m (0 : Int))).length := by rw [List.length_replicate, hal]
      rw [er, tabM_snoc el]
      have em : as.map V.ref ++ [V.ref q] = (as ++ [q]).map V.ref := by rw [List.map_append]; rfl
      rw [em]
      refine o10.mems (fun z hz => ?_) ?_
      · show z ∈ (q, MO.lst ((List.replicate m (0 : Int)).map .int)) :: (D, MO.rl (as ++ [q])) :: (tabM as (List.replicate i (List.replicate m 0)) ++ μ1)
        simp only [List.mem_cons, List.mem_append, List.not_mem_nil, or_false] at hz ⊢
        rcases hz with z | (z | z) | z
        · exact .inr (.inl z)
        · exact .inr (.inr (.inl z))
        · exact .inl z
        · exact .inr (.inr (.inr z))
      · have nd : (((q, MO.lst ((List.replicate m (0 : Int)).map .int)) :: (D, MO.rl (as ++ [q])) :: (tabM as (List.replicate i (List.replicate m 0)) ++ μ1)).map (·.1)).Nodup := o10.nd
        refine (List.Perm.nodup_iff ?_).mp nd
        simp only [List.map_cons, List.map_append, List.map_nil]
        refine (List.Perm.swap _ _ _).trans (List.Perm.cons _ ?_)
        rw [List.append_assoc]
        exact List.perm_middle.symm
  · have ei : i = xs.length := by omega
    subst ei
    refine .inl ⟨W.stop M' H' oi.alloc oi.base, ?_⟩
    exact k D as M' hDM haM hal hMM _ _ ((oi.reB o1.base).set _ (e := .m D) rfl)
end
end FD
/-! a table handed back; min, max of two texts; join, index -/
namespace FD
open PySem PySem.Spec L2 Evl PyProof.Rows
section
variable {C : Cfg} {M : List Addr} {δ : List Ent} {μ μ1 μ2 : Mem} {te ta tb : TE} {D : Ends} {t2 : TS} {a : Addr}
theorem dp_tab {σ : L2.St} {H1 : Hp} (o1 : Ok C M δ μ1 σ H1) : ∀ (as : List Addr) (T : List (List Int)), as.length = T.length → (∀ p ∈ tabM as T, p ∈ μ1) → (∀ b ∈ as, b ∉ C.M0) → DpAll C.K (hide C.M0 H1) (as.map V.ref) (T.map fun r => .list (r.map .int))
  | [], [], _, _, _ => .nil
  | [], _ :: _, h, _, _ => by cases h
  | _ :: _, [], h, _, _ => by cases h
  | b :: as, t :: T, hl, hs, h1 => by
    refine .cons ?_ (dp_tab o1 as T (by simpa using hl) (fun p hp => hs p (List.mem_cons_of_mem _ hp)) fun c hc => h1 c (List.mem_cons_of_mem _ hc))
    obtain ⟨_, _, vs, q1, q2⟩ := o1.mem _ (hs (b, .lst (t.map .int)) List.mem_cons_self)
    exact .lst (sq_of (by rw [hide_out (h1 b List.mem_cons_self)]; exact q1)) (dpAll_mono (hide_sub o1.sub) _ _ q2)
theorem r_retTab {as : List Addr} {T : List (List Int)} (h : EvX C te M δ μ μ1 (.m a)) (hm : (a, .rl as) ∈ μ1) (hs : ∀ p ∈ tabM as T, p ∈ μ1) (hl : as.length = T.length) (h0 : a ∉ C.M0) (h1 : ∀ b ∈ as, b ∉ C.M0) (k : Fin C D (.list (T.map fun r => .list (r.map .int)))) : Run C (tRet te) D M δ μ := fun σ H o => h σ H o _ fun v H1 o1 x1 r => by
  have e1 : v = .ref a := r
  have q : H1 a = some (.lst (as.map V.ref)) := (o1.mem _ hm).2.2
  refine k v H1 o1.gr ?_
  rw [e1]
  refine .lst (sq_of (by rw [hide_out h0]; exact q)) ?_
  exact dp_tab o1 as T hl hs h1
end
/-! ### min, max of two texts -/
def ltS (x y : Str) : Bool := decide (x.cps.toList < y.cps.toList)
section
variable {prog : Program} {w : World} {A : Around} {E : Value → Shared → Prop} {s : Shared}
theorem two_get {x y : Str} {t u : Tok} {i : Nat} {v : Value} (h : (#[Value.str x t, Value.str y u])[i]? = some v) : ∃ t', v = .str (if i = 0 then x else y) t' ∧ (i = 0 ∨ i = 1) := by
  rcases i with _ | _ | i
  · exact ⟨t, by simpa using h.symm, .inl rfl⟩
  · exact ⟨u, by simpa using h.symm, .inr rfl⟩
  · simp at h
theorem max_two_strs {x y : Str} {t u : Tok} {Q : Value → Shared → Prop} (hh : A.handled = none)
    (h : ∀ h' tk, (∀ c o, s.heap.get? c = some o → h'.get? c = some o) → Q (if ltS x y = true then .str y u else .str x t) { s with heap := h', toks := tk }) :
    wpAny (model prog w) A (call (.builtin "max") [.str x t, .str y u]) Q E s := by
  have hT : (s.heap.push { cls := .type "tuple", data := .seq #[.str x t, .str y u] }).IsTuple s.heap.objs.size #[.str x t, .str y u] := ⟨_, Heap.get?_push_size _ rfl, rfl, 0, rfl⟩
  refine call_max_two (wpAny_pyIter_tuple hT ?_)
  have hz : (s.heap.push { cls := .type "tuple", data := .seq #[.str x t, .str y u] }).objs.size = s.heap.objs.size + 1 := Heap.size_push ..
  refine ⟨_, [_, s.heap.objs.size], [_], _, _, _, fun i j => ltS (if j = 0 then x else y) (if i = 0 then x else y), rfl, Walks.tuple (A := A.in1) hh _ s.heap.objs.size (by rw [hz]; exact Nat.ne_of_lt (Nat.lt_succ_self _)) #[.str x t, .str y u],
    ⟨⟨_, Heap.get?_push_size _ rfl, rfl, rfl⟩, hT.push _⟩, fun c hc => ?_, by simp, fun i j vi vj s1 Q1 E1 hi hj q1 => ?_, fun v h' tk hP hk => ?_⟩
  · show c < ((s.heap.push _).push _).objs.size
    rw [Heap.size_push, hz]
    simp only [List.mem_cons, List.not_mem_nil, or_false] at hc
    rcases hc with rfl | rfl
    · rw [hz]; exact Nat.lt_succ_self _
    · exact Nat.lt_succ_of_lt (Nat.lt_succ_self _)
  · obtain ⟨t1, rfl, _⟩ := two_get hi
    obtain ⟨t2, rfl, _⟩ := two_get hj
    exact PySem.P.gt_str q1
  · have old : ∀ c o, s.heap.get? c = some o → h'.get? c = some o := fun c o e => by
      refine hk c o (fun m => ?_) (Heap.get?_push_of_some _ (Heap.get?_push_of_some _ e))
      have lt := Heap.lt_size e
      have m := List.mem_singleton.mp m
      rw [m, hz] at lt
      exact absurd lt (Nat.not_lt.mpr (Nat.le_succ _))
    have q := h h' tk old
    have hv : v = if ltS x y = true then Value.str y u else Value.str x t := by
      have hP : (#[Value.str x t, Value.str y u])[argBest (fun i j => ltS (if j = 0 then x else y) (if i = 0 then x else y)) 1]? = some v := hP
      by_cases b : ltS x y = true
      · have e : argBest (fun i j => ltS (if j = 0 then x else y) (if i = 0 then x else y)) 1 = 1 := by simp [argBest, b]
        rw [e] at hP
        simpa [b] using hP.symm
      · have e : argBest (fun i j => ltS (if j = 0 then x else y) (if i = 0 then x else y)) 1 = 0 := by simp [argBest, b]
        rw [e] at hP
        simpa [b] using hP.symm
    rw [hv]; exact q
theorem min_two_strs {x y : Str} {t u : Tok} {Q : Value → Shared → Prop} (hh : A.handled = none)
    (h : ∀ h' tk, (∀ c o, s.heap.get? c = some o → h'.get? c = some o) → Q (if ltS y x = true then .str y u else .str x t) { s with heap := h', toks := tk }) :
    wpAny (model prog w) A (call (.builtin "min") [.str x t, .str y u]) Q E s := by
  have hT : (s.heap.push { cls := .type "tuple", data := .seq #[.str x t, .str y u] }).IsTuple s.heap.objs.size #[.str x t, .str y u] := ⟨_, Heap.get?_push_size _ rfl, rfl, 0, rfl⟩
  refine call_min_two (wpAny_pyIter_tuple hT ?_)
  have hz : (s.heap.push { cls := .type "tuple", data := .seq #[.str x t, .str y u] }).objs.size = s.heap.objs.size + 1 := Heap.size_push ..
  refine ⟨_, [_, s.heap.objs.size], [_], _, _, _, fun i j => ltS (if i = 0 then x else y) (if j = 0 then x else y), rfl, Walks.tuple (A := A.in1) hh _ s.heap.objs.size (by rw [hz]; exact Nat.ne_of_lt (Nat.lt_succ_self _)) #[.str x t, .str y u],
    ⟨⟨_, Heap.get?_push_size _ rfl, rfl, rfl⟩, hT.push _⟩, fun c hc => ?_, by simp, fun i j vi vj s1 Q1 E1 hi hj q1 => ?_, fun v h' tk hP hk => ?_⟩
  · show c < ((s.heap.push _).push _).objs.size
    rw [Heap.size_push, hz]
    simp only [List.mem_cons, List.not_mem_nil, or_false] at hc
    rcases hc with rfl | rfl
    · rw [hz]; exact Nat.lt_succ_self _
    · exact Nat.lt_succ_of_lt (Nat.lt_succ_self _)
  · obtain ⟨t1, rfl, _⟩ := two_get hi
    obtain ⟨t2, rfl, _⟩ := two_get hj
    exact PySem.P.lt_str q1
  · have old : ∀ c o, s.heap.get? c = some o → h'.get? c = some o := fun c o e => by
      refine hk c o (fun m => ?_) (Heap.get?_push_of_some _ (Heap.get?_push_of_some _ e))
      have lt := Heap.lt_size e
      have m := List.mem_singleton.mp m
      rw [m, hz] at lt
      exact absurd lt (Nat.not_lt.mpr (Nat.le_succ _))
    have q := h h' tk old
    have hv : v = if ltS y x = true then Value.str y u else Value.str x t := by
      have hP : (#[Value.str x t, Value.str y u])[argBest (fun i j => ltS (if i = 0 then x else y) (if j = 0 then x else y)) 1]? = some v := hP
      by_cases b : ltS y x = true
      · have e : argBest (fun i j => ltS (if i = 0 then x else y) (if j = 0 then x else y)) 1 = 1 := by simp [argBest, b]
        rw [e] at hP
        simpa [b] using hP.symm
      · have e : argBest (fun i j => ltS (if i = 0 then x else y) (if j = 0 then x else y)) 1 = 0 := by simp [argBest, b]
        rw [e] at hP
        simpa [b] using hP.symm
    rw [hv]; exact q
end
def rMax2S : List V → Hp → VK → Prop := fun xs H Q => ∃ x y, xs = [.str x, .str y] ∧ Q (.str (if ltS x y = true then y else x)) H
def rMin2S : List V → Hp → VK → Prop := fun xs H Q => ∃ x y, xs = [.str x, .str y] ∧ Q (.str (if ltS y x = true then y else x)) H
section
variable {X : Cx}
theorem cr_max2S (hc : X.calm = true) : CallR X (.builtin "max") rMax2S := by
  intro pins s σ H xs us Q I r h
  obtain ⟨x, y, rfl, q⟩ := h
  obtain ⟨u, u', rfl, ⟨t, rfl⟩, ⟨t', rfl⟩⟩ := vals2 r
  refine max_two_strs (I.ok.hd hc) fun h' tk k => ⟨_, H, I.kept k, ?_, q⟩
  by_cases b : ltS x y = true
  · rw [if_pos b, if_pos b]; exact ⟨_, rfl⟩
  · rw [if_neg b, if_neg b]; exact ⟨_, rfl⟩
theorem cr_min2S (hc : X.calm = true) : CallR X (.builtin "min") rMin2S := by
  intro pins s σ H xs us Q I r h
  obtain ⟨x, y, rfl, q⟩ := h
  obtain ⟨u, u', rfl, ⟨t, rfl⟩, ⟨t', rfl⟩⟩ := vals2 r
  refine min_two_strs (I.ok.hd hc) fun h' tk k => ⟨_, H, I.kept k, ?_, q⟩
  by_cases b : ltS y x = true
  · rw [if_pos b, if_pos b]; exact ⟨_, rfl⟩
  · rw [if_neg b, if_neg b]; exact ⟨_, rfl⟩
end
/-! ### in the layer -/
section
variable {C : Cfg} {M : List Addr} {δ : List Ent} {μ μ1 μ2 : Mem} {te ta tb : TE} {D : Ends} {t2 : TS} {a : Addr} {e : Ent} {x y : Str}
theorem c_max2S : CallX C rMax2S M δ μ μ [.d (.str x), .d (.str y)] (.d (.str (if ltS x y = true then y else x))) := fun σ H vs o h Q k => by
  obtain ⟨v, w, rfl, q, q'⟩ := p2 h
  exact ⟨x, y, by rw [Dp.str_of q, Dp.str_of q'], k _ H o (Ex.refl _) (.str _)⟩
theorem c_min2S : CallX C rMin2S M δ μ μ [.d (.str x), .d (.str y)] (.d (.str (if ltS y x = true then y else x))) := fun σ H vs o h Q k => by
  obtain ⟨v, w, rfl, q, q'⟩ := p2 h
  exact ⟨x, y, by rw [Dp.str_of q, Dp.str_of q'], k _ H o (Ex.refl _) (.str _)⟩
abbrev rJoinS (K : PySem.W.Frag) : V → List V → Hp → VK → Prop := fun x xs H Q => ∃ a p, ∃ ys : List Str, x = .str a ∧ xs = [.ref p] ∧ (SqL K H p (ys.map V.str) ∨ SqT K H p (ys.map V.str)) ∧
    (ys.map (·.length)).sum + ys.length * a.length ≤ 16777216 ∧ Q (.str (Txt.join a ys)) H
theorem x_join {ys : List Str} (hx : EvX C ta M δ μ μ1 (.d (.str x))) (h : EvX C te M δ μ1 μ2 e) (r : Rdd μ2 e (.list (ys.map .str))) (hz : (ys.map (·.length)).sum + ys.length * x.length ≤ 16777216) : EvX C (tBM C.K "str" (rJoinS C.K) ta (tCons te tNil)) M δ μ μ2 (.d (.str (Txt.join x ys))) := fun σ H o Q k =>
  hx σ H o _ fun v H1 o1 x1 r1 => by
    have e1 := Dp.str_of r1
    subst e1
    refine ⟨rfl, h σ H1 o1 _ fun w H2 o2 x2 r2 => ?_⟩
    obtain ⟨p, vs, q1, q2, q3⟩ := r.lst o2 r2
    have e3 := DpAll.strs q3
    subst e3
    exact ⟨x, p, ys, rfl, by rw [q1], .inl q2, hz, k _ H2 o2 (x1.trans x2) (.str _)⟩
theorem x_sindex {n : Nat} (hx : EvX C ta M δ μ μ1 (.d (.str x))) (h : EvX C te M δ μ1 μ2 (.d (.str y))) (hn : Txt.index0 x y = some n) : EvX C (tBMS C.K "str" (rIndexX fun _ _ _ _ => False) ta (tCons te tNil)) M δ μ μ2 (.d (.int (n : Nat))) := fun σ H o Q k =>
  hx σ H o _ fun v H1 o1 x1 r1 => by
    have e1 := Dp.str_of r1
    subst e1
    refine ⟨rfl, h σ H1 o1 _ fun w H2 o2 x2 r2 => ?_⟩
    refine ⟨x, y, rfl, by rw [Dp.str_of r2], fun m hm => ?_, fun z => by rw [hn] at z; cases z⟩
    rw [hn] at hm
    cases hm
    exact k _ H2 o2 (x1.trans x2) (.int _)
end
/-- a statement that is not come to -/
theorem ps_no {X : Cx} {st : Stmt} : PS X st (fun _ _ _ => False) := ⟨fun _ _ _ _ _ _ h => h.elim⟩
end FD
namespace PySem
namespace ErrRef
open PySem.W PySem.Calls PyProof.Rows PySem.HandSPX
def iA : Arguments := { posonlyargs := [], args := [{ arg := "self", annotation := none, pos := ⟨6, 17, 6, 21⟩ }, { arg := "word", annotation := none, pos := ⟨6, 23, 6, 27⟩ }], vararg := none, kwonlyargs := [], kw_defaults := [], kwarg := none, defaults := [] }
def iB : List Stmt := [.Expr (.Call (.Attribute (.Call (.Name "super" ⟨7, 8, 7, 13⟩) [] [] ⟨7, 8, 7, 15⟩) "__init__" ⟨7, 8, 7, 24⟩) [.Constant (.str "refused") 0 ⟨7, 25, 7, 34⟩] [] ⟨7, 8, 7, 35⟩) ⟨7, 8, 7, 35⟩, .Assign [.Attribute (.Name "self" ⟨8, 8, 8, 12⟩) "word" ⟨8, 8, 8, 17⟩] (.Name "word" ⟨8, 20, 8, 24⟩) ⟨8, 8, 8, 24⟩]
def iS : Scope := { kind := .function, names := [(PySem.Str.ofString "self", .local), (PySem.Str.ofString "word", .local), (PySem.Str.ofString "__class__", .free), (PySem.Str.ofString "super", .globalImplicit)], isGenerator := false, isCoroutine := false, more := [] }
/-- what the written part says of the class at C, and of its __init__ at fI -/
structure ErrTxt (K : Frag) (mg : Str → Option Value) (prog : Program) (C fI : Addr) : Prop where
  gC : mg "Refused" = some (.ref C)
  cls : ∃ nm q N bs bm sn sub ab col dd k0 k1 k2 k3 k5, K.lookup C = some (excClassObj nm q C N bs bm true sn sub ab col dd k0 k1 k2 k3 k5 "ValueError.__new__") ∧ refsVE bm = true
  sa : findIn K (.ref C) "__setattr__" = some (some (.builtin "object.__setattr__"))
  ga : findIn K (.ref C) "__getattribute__" = some (some (.builtin "BaseException.__getattribute__"))
  gg : findIn K (.ref C) "__getattr__" = some none
  noN : findIn K (.ref C) "word" = some none
  iC : findIn K (.ref C) "__init__" = some (some (.ref fI))
  tC : typeIn K (.ref fI) = some (.type "function")
  kC : keepIn K (.ref C) = true
  exC : subIn K (.ref C) (.type "BaseException") = some true
  tyC : typeIn K (.ref C) = some (.type "type")
  hdC : hasDictIn K C = true
  te : exmOne K (.ref C) (.ref C) = some true
  fn : ∃ (oc : Value) (od : Option Addr) (doc pm : Value) (an : Option Addr) (cda cc : Addr) (ct : Value) (osl : Array (Option Value)),
    K.lookup fI = some ⟨oc, od, .func (ksFn "__init__" "Refused.__init__" iA iB iS .none .none doc pm an (.ref cda) ct cc), osl⟩ ∧ codeIn K (.ref cda) "Refused.__init__" = true ∧
    (∃ ccl cdd vs ccs file tf, K.lookup cda = some ⟨ccl, cdd, .fields vs, ccs⟩ ∧ vs[2]? = some (.str file tf) ∧ ((prog.main.file : Str) == file) = true) ∧
    ∃ cl cld csl, K.lookup cc = some ⟨cl, cld, .cell (some (.ref C)), csl⟩
  inVE : subIn K (.ref C) (.type "ValueError") = some true
  mroC : mroIn K C (.ref C) = some true
  sup : ks_superIn K C C "__init__" = some (some (.builtin "ValueError.__init__"))
  gS : mg "super" = none
  opq : nsIn K cStatics "thirdparty.any" = some none
  top : (prog.main.scope.names.lookup ("super" : Str)).isSome = false
theorem one_size (v : Value) : [v].length ≤ sizeLine := by
  rw [sizeLine_eq]
  exact (by decide : 1 ≤ 16777216)
theorem ldC {M : Model} {s : Shared} {env : Env} {m : Str → Option Value} {x : Str} {pos : Pos} {v : Value} {Q : Value → Shared → Prop} {A : Around} {E : Value → Shared → Prop} (hn : s.heap.Ns env.locals m) (hv : m x = some v) (h : Q v s)
    (hk : env.scope.kind = .function := by rfl) (hl : env.kindOf x = some .local := by rfl) (hd : (x == ("__debug__" : Str)) = false := by decide) :
    wpAny M A (eval (.Name x pos) env) Q E s := wpAny_Name (wpAny_loadName_local hk hl hn hv h) hd
structure InitEnd (h h' : Heap) (x C dx t1 : Addr) (v : Value) : Prop where
  keep : ∀ b o, b ≠ x → h.get? b = some o → h'.get? b = some o
  obj : h'.get? x = some { cls := .ref C, dict := some dx, data := .fields #[.ref t1, .none, .none, .none, .bool false, .none] }
  dbig : h.objs.size ≤ dx
  dne : dx ≠ x
  ns : h'.Ns1 dx (fun y => if y = "word" then some v else none)
structure OwnMade (h h' : Heap) (e C d : Addr) (v : Value) : Prop where
  keep : ∀ b o, h.get? b = some o → h'.get? b = some o
  new : h.objs.size ≤ e
  obj : ∃ oe vs, h'.get? e = some oe ∧ oe.cls = .ref C ∧ oe.dict = some d ∧ oe.data = .fields vs ∧ vs[1]? = some .none
  dbig : h.objs.size ≤ d
  dne : d ≠ e
  ns : h'.Ns1 d (fun y => if y = "word" then some v else none)
section
variable {M : Model} {A : Around} {E : Value → Shared → Prop} {s : Shared} {u x : Addr} {i : String}
theorem kx_callWith1 {pos : Pos} {env : Env} {e : Expr} {rest : List Expr} {Q : Value → Shared → Prop}
    (h : wpAny M A (spliced (backTo pos (starEach (e :: rest) env))) (fun vs s₁ => KxsAt i u x s₁.heap ∧ wpAny M A (call (.ref u) vs) Q E s₁) E s)
    (he : starEach (e :: rest) env = (false, eval e env) :: starEach rest env := by rfl) (hplain : (backTo pos (starEach rest env)).any (·.1) = false := by rfl) :
    wpAny M A (callWith pos (.ref u) [] (backTo pos (starEach (e :: rest) env)) []) Q E s := by
  rw [he] at h ⊢
  refine kxs_callWith (i := i) (x := x) (by show (false || (backTo pos (starEach rest env)).any (·.1)) = false; rw [hplain]; rfl) ?_
  exact evalArgs_plain h
end
section
variable {prog : Program} {w : World} {A : Around} {E : Value → Shared → Prop} {h : Heap} {g : Array GenState} {d : Drawn} {t : Nat} {os : OsState}
variable {nm q : Str} {C N : Addr} {bs bm : List Value} {hdct : Bool} {sn : List Str} {sub : List Value} {ab : Bool} {col : Option Bool} {dd : Option Addr} {k0 k1 k2 k3 k5 : Option Value}
theorem call_mw {u e t0 : Addr} {rest : List Value} {Q : Value → Shared → Prop}
    (hC : h.get? C = some (excClassObj nm q C N bs bm hdct sn sub ab col dd k0 k1 k2 k3 k5 "ValueError.__new__")) (he : h.get? e = some (HandSPX.excO C t0)) (hu : h.get? u = some (kxs_mw "ValueError.__init__" e)) (hrest : rest.length ≤ sizeLine)
    (hq : ∀ h' t1, (∀ b o, b ≠ e → h.get? b = some o → h'.get? b = some o) → h'.get? e = some (HandSPX.excO C t1) → Q .none ⟨h', g, d, t, os⟩) :
    wpAny (model prog w) A (call (.ref u) rest) Q E ⟨h, g, d, t, os⟩ := by
  refine wpAny_call (codeAny_of_tree ?_)
  show wpAny _ A.in1 (callAny (.ref u) ⟨rest, []⟩) _ _ _
  simp only [callAny]
  refine wpAny_bind (wpAny_load hu ?_)
  simp only [kxs_mw, show (Value.type "method-wrapper" == Value.type "method" || Value.type "method-wrapper" == Value.type "builtin_function_or_method" || Value.type "method-wrapper" == Value.type "method-wrapper") = true by decide, if_true]
  refine W.KFB.if_so (by decide) ?_
  refine wpAny_bind (ESX.check_bound F.excBase_ValueError hC he rfl ?_)
  refine wpAny_bind (wpAny_pure (wpAny_pure ?_))
  refine ⟨Code.quiet_builtin _ (by decide +kernel), codeAny_builtin F.excBase_ValueError.initEntry ?_⟩
  rw [Around.under_plainId F.excBase_ValueError.init.plain _]
  wp_walk
  refine hq _ h.objs.size (fun b o hb ho => ?_) ?_
  · rw [Heap.get?_update_other _ _ (Ne.symm hb)]
    exact Heap.get?_push_of_some _ ho
  · rw [Heap.get?_update_self _ (Heap.get?_push_of_some _ he) rfl]
    rfl
end
section
variable {prog : Program} {w : World} {A : Around} {E : Value → Shared → Prop} {R : Result → Shared → Prop} {s : Shared} {K : Frag} {mg : Str → Option Value} {C fI : Addr} {base : Heap}
theorem err_init (T : ErrTxt K mg prog C fI) (M : L2.Mod K mg base) {x t0 : Addr} {v : Value} (bk : ∀ b o, base.get? b = some o → s.heap.get? b = some o) (hx : s.heap.get? x = some (excO C t0)) (hxC : x ≠ C) (hnx : ∀ o, K.lookup x ≠ some o) (hroom : A.depth < recursionLimit)
    (hq : ∀ h' tk dx t1, InitEnd s.heap h' x C dx t1 v → R (.ok (.ret .none)) { s with heap := h', toks := tk }) :
    codeAny (model prog w) A (.call (.ref fI) ⟨[.ref x, v], []⟩) R s := by
  obtain ⟨oc, od, doc, pm, an, cda, cc, ct, osl, ho, hcd, ⟨ccl, cdd, vs, ccs, file, tf, hcode, hvs, hfile⟩, cl, cld, csl, hcell⟩ := T.fn
  obtain ⟨nm, q, N, bs, bm, sn, sub, ab, col, dd, k0, k1, k2, k3, k5, hC, hbm⟩ := T.cls
  have hcl : clsIn K C = some { name := nm, bases := bs, mro := .ref C :: bm, ns := N, qualname := q, hasDict := true, slotNames := sn, subclasses := sub, abstract := ab, collection := col, hasDel := false } := by unfold clsIn; rw [hC] <;> rfl
  have X : K.In s.heap := M.kin.keeps bk
  obtain ⟨mb, hb1, hb2⟩ := M.blt
  obtain ⟨hp, g, dr, tk, os⟩ := s
  refine ks_codeAny_call_defAt (fd := ksFn "__init__" "Refused.__init__" iA iB iS .none .none doc pm an (.ref cda) ct cc) (body := iB) (binds := [("self", .ref x), ("word", v)]) hroom (X _ _ ho) rfl (M.nolimit.keeps bk) (codeRec_of X hcd) rfl (BindsTo.of_eq rfl) (by show ∀ x ∈ iS.names, x.2 ≠ .cell; decide) (locs rfl) (fun h₁ hn k => ?_) rfl rfl rfl
  show wpAt (model prog w) _ (.func iB (ksEnv "Refused.__init__" iS hp.objs.size fI (.ref cda) cc)) (execs iB (ksEnv "Refused.__init__" iS hp.objs.size fI (.ref cda) cc)) _ _ _
  have X₁ : K.In h₁ := X.keeps k
  have bk₁ : ∀ b o, base.get? b = some o → h₁.get? b = some o := fun b o e => k b o (bk b o e)
  have hx₁ := k _ _ hx
  have hxL : hp.objs.size ≠ x := Nat.ne_of_gt (Heap.lt_size hx)
  have hC₁ : h₁.get? C = some _ := X₁ _ _ hC
  refine ks_wpAt_execs_cons (ks_wpAt_Expr_any (ks_wpAt_MethodCall (ks_wpAt_super_base (env := ksEnv "Refused.__init__" iS hp.objs.size fI (.ref cda) cc) (attr := "__init__") (ar := { arg := "self", annotation := none, pos := ⟨6, 17, 6, 21⟩ }) rfl rfl rfl rfl (X₁ _ _ ho) rfl rfl rfl (X₁ _ _ hcode) rfl hvs hfile T.top ?_)))
  refine ks_loadName_global rfl rfl (loadGlobal_builtin (env := ksEnv "Refused.__init__" iS hp.objs.size fI (.ref cda) cc) (M.glob.keeps bk₁) T.gS (hb1.keeps bk₁) ((hb2 "super" (by decide)).trans (show bootBuiltins "super" = some (.type "super") by decide +kernel)) ⟨rfl, ?_⟩)
  refine wpAny_loadName_free rfl rfl rfl ⟨_, X₁ _ _ hcell, rfl⟩ ?_
  refine wpAny_loadName_local rfl rfl hn rfl ?_
  refine ks_wpAny_isType_cls hC₁ rfl ⟨rfl, ?_⟩
  refine ks_wpAny_call_super hC₁ rfl hx₁ rfl (fun c e => by cases e) (looks_mroIn X₁ T.mroC) (fun h₂ e₂ k₂ => ?_)
  have X₂ : K.In h₂ := X₁.keeps k₂
  have hI : Looks (model prog w) h₂ (isInstance (.ref x) (.type "ValueError")) true := (show W.InstAt h₂ x (excO C t0) C none from ⟨k₂ _ _ hx₁, rfl, rfl, trivial⟩).type.andThen (looks_subIn X₂ T.inVE)
  have hsup := T.sup
  unfold ks_superIn at hsup
  rw [hcl] at hsup
  refine kxs_getMethod kxs_ValueError e₂ (looks_opaque X₂ T.opq) (l₀ := .ref C :: bm) (fun A Q E s k q => wpAny_bind ((looks_clsIn X₂ hcl) A _ E s k (wpAny_pure q))) rfl X₂ hsup hI hxC rfl ?_
  have k₃ : ∀ b o, h₂.get? b = some o → (h₂.push (kxs_mw "ValueError.__init__" x)).get? b = some o := fun b o e => Heap.get?_push_of_some _ e
  refine kx_callWith1 (i := "ValueError.__init__") (x := x) (args_cons (wpAny_Constant_str (args_nil ⟨Heap.get?_push_at rfl rfl, ?_⟩)))
  refine call_mw (t0 := t0) (k₃ _ _ (k₂ _ _ hC₁)) (k₃ _ _ (k₂ _ _ hx₁)) (Heap.get?_push_at rfl rfl) (one_size _) (fun h₄ t1 k₄ hx₄ => ?_)
  have old : ∀ b o, b ≠ x → h₁.get? b = some o → h₄.get? b = some o := fun b o hb e => k₄ b o hb (k₃ b o (k₂ b o e))
  have C4 : h₄.get? C = some _ := old _ _ (Ne.symm hxC) hC₁
  have X₄ : K.In h₄ := fun a o e => by
    by_cases z : a = x
    · rw [z] at e
      exact absurd e (hnx o)
    · exact old a o z (X₁ a o e)
  have hn₄ : h₄.Ns hp.objs.size _ := hn.at fun o e => old _ o hxL e
  refine wpAt_of_wpAny ?_
  show wpAny _ _ (execs [_] _) _ _ _
  refine wpAny_execs_cons (plainObj_wpAny_Assign_Attribute ?_)
  refine ldC (v := v) hn₄ rfl (ldC (v := .ref x) hn₄ rfl ?_)
  refine set_plain X₄ (ox := excO C t1) (od := none) ⟨hx₄, rfl, rfl, trivial⟩ T.sa ?_
  refine exc_osa X₄ hx₄ hcl (show refsVE (.ref C :: bm) = true from hbm) rfl T.noN (fun h₅ tk₅ dx k₅ dn dne hx₅ hn₅ => ?_)
  show wpAny _ _ (execs [] _) _ _ _
  have z1 : hp.objs.size < h₁.objs.size := hn.lt
  refine wpAny_execs_nil (hq h₅ tk₅ dx t1 ⟨fun b o hb e => k₅ b o hb (old b o hb (k b o e)), hx₅, ?_, dne, hn₅⟩)
  have z2 : hp.objs.size < h₄.objs.size := hn₄.lt
  exact Nat.le_of_lt (Nat.lt_of_lt_of_le z2 dn)
theorem err_made (T : ErrTxt K mg prog C fI) (M : L2.Mod K mg base) {v : Value} (bk : ∀ b o, base.get? b = some o → s.heap.get? b = some o) (hroom : A.depth + 1 < recursionLimit)
    (hq : ∀ h' tk e d, OwnMade s.heap h' e C d v → R (.ok (.ret (.ref e))) { s with heap := h', toks := tk }) :
    codeAny (model prog w) A (.call (.ref C) ⟨[v], []⟩) R s := by
  obtain ⟨nm, q, N, bs, bm, sn, sub, ab, col, dd, k0, k1, k2, k3, k5, hC, hbm⟩ := T.cls
  have X : K.In s.heap := M.kin.keeps bk
  obtain ⟨hp, g, dr, tk, os⟩ := s
  have k : ∀ b o, hp.get? b = some o → ((hp.push (kdv_tup [v])).push (excO C hp.objs.size)).get? b = some o := fun b o e => Heap.get?_push_of_some _ (Heap.get?_push_of_some _ e)
  have hget : ((hp.push (kdv_tup [v])).push (excO C hp.objs.size)).get? (hp.objs.size + 1) = some (excO C hp.objs.size) := by heap_get
  have hlt : C < hp.objs.size := Heap.lt_size (X _ _ hC)
  have hnx : ∀ o, K.lookup (hp.objs.size + 1) ≠ some o := fun o e => by
    have z : hp.get? (hp.objs.size + 1) = some o := X _ _ e
    exact absurd (Nat.lt_of_succ_lt (Heap.lt_size z)) (Nat.lt_irrefl _)
  refine call_own F.excBase_ValueError (fun X => refsVE_contains X bm hbm) (X _ _ hC) (looks_findIn X T.iC) (fun self => bind_fn X self T.tC) (one_size v) ?_
  refine err_init (s := ⟨(hp.push (kdv_tup [v])).push (excO C hp.objs.size), g, dr, tk, os⟩) T M (fun b o e => k b o (bk b o e)) hget (Nat.ne_of_gt (Nat.lt_succ_of_lt hlt)) hnx ?_ fun h' tk' dx t1 ⟨k', hx, dn, dne, hns⟩ => ?_
  · show A.depth + 1 < recursionLimit
    exact hroom
  · have old : ∀ b o, hp.get? b = some o → h'.get? b = some o := fun b o e => k' b o (Nat.ne_of_lt (Nat.lt_succ_of_lt (Heap.lt_size e))) (k b o e)
    have z : hp.objs.size + 1 + 1 ≤ dx := by
      first
        | (simpa only [Heap.size_push] using dn)
        | exact dn
        | (have q := dn; rw [Heap.size_push, Heap.size_push] at q; exact q)
    exact ⟨rfl, hq h' tk' (hp.objs.size + 1) dx ⟨old, Nat.le_succ _, ⟨_, _, hx, rfl, rfl, rfl, rfl⟩, Nat.le_trans (Nat.le_trans (Nat.le_succ _) (Nat.le_succ _)) z, dne, hns⟩⟩
end
end ErrRef
end PySem
namespace L2
open PySem PySem.Spec PyProof.Rows
theorem relO_ErrRef {v : V} {v' : Value} (r : RelV v v') (f : Str) : RelO (List.lookup f [(("word" : Str), v)]) (if f = "word" then some v' else none) := by
  by_cases hw : f = "word"
  · subst hw
    rw [if_pos rfl]
    have q : List.lookup ("word" : Str) [(("word" : Str), v)] = some v := by simp [List.lookup]
    rw [q]
    exact r
  · rw [if_neg hw]
    have qw : (f == ("word" : Str)) = false := by simpa using hw
    have q2 : List.lookup f [(("word" : Str), v)] = none := by simp [List.lookup, qw]
    rw [q2]
    trivial
section
variable {X : Cx} {C fI : Addr}
/-- Refused(e) -/
def tMk_ErrRef (C : Addr) (ta : TA) : St → Hp → XK → Prop := fun σ H Q => ta σ H fun vs H1 => ∃ v, vs = [v] ∧ ∀ d, H1 d = none → Q (.ref C) (some d) (upd H1 d (.xd [(("word" : Str), v)]))
theorem pmk_ErrRef {a : Expr} {ta : TA} {p pos : Pos} {k : Nat} (T : PySem.ErrRef.ErrTxt X.K X.mg X.prog C fI) (hr : Room k X.A) (ha : PA X [a] ta) (hg : Gl X "Refused" := by rfl)
    (he : starEach (a :: []) X.env = (false, eval a X.env) :: starEach [] X.env := by rfl) (hpl : (backTo pos (starEach [] X.env)).any (·.1) = false := by rfl) :
    PMk X (.Call (.Name "Refused" p) [a] [] pos) (tMk_ErrRef C ta) := by
  intro pins s σ H Q I h
  refine wpAny_Call_Name_kw (ld_glob I hg T.gC ?_)
  refine PySem.W.callWith_K (h₀ := X.base) I.ok.mod.kin T.kC (thn (ha.run pos pins s σ H _ I h) fun us s1 hh => ?_) he hpl
  obtain ⟨vs, H1, I1, r1, v, ev, q1⟩ := hh
  subst ev
  refine ⟨I1.kIn, ?_⟩
  cases r1 with
  | cons rv rn =>
    rename_i v' us'
    cases rn
    show wpAny _ _ (call (.ref C) [v']) _ _ _
    have bk := I1.bk
    obtain ⟨hp, g, dr, tk, os⟩ := s1
    refine wpAny_call (PySem.ErrRef.err_made T I1.mod bk (by have := hr.dp; omega) fun h' tk' e d M => ?_)
    show MkP X pins σ Q (.ref e) ⟨h', g, dr, tk', os⟩
    obtain ⟨oe, fv, hoe, hc, hd, hdat, h1⟩ := M.obj
    have hns := M.ns
    obtain ⟨G', g1, g2⟩ := restrict h' fun b => decide (b ≠ e)
    have gk : ∀ b, b ≠ e → G'.get? b = h'.get? b := fun b hb => g1 b (decide_eq_true hb)
    have ge : G'.get? e = none := g2 e (by simp)
    have old : ∀ b o, hp.get? b = some o → G'.get? b = some o := fun b o q => (gk b (Nat.ne_of_lt (Nat.lt_of_lt_of_le (Heap.lt_size q) M.new))).trans (M.keep b o q)
    have ob : ObjOk X.prog X.w (upd H1 d (.xd [(("word" : Str), v)])) G' d (.xd [(("word" : Str), v)]) :=
      ⟨_, hns.at (fun o q => (gk d M.dne).trans q), fun f => relO_ErrRef rv f⟩
    have J : Inv X pins σ (upd H1 d (.xd [(("word" : Str), v)])) ⟨G', g, dr, tk', os⟩ := I1.laid (t' := tk') old M.dbig ob
    refine ⟨e, oe, fv, ⟨G', g, dr, tk', os⟩, _, .ref C, some d, rfl, J, fun b o q => ?_, ge, hoe, ⟨hc, hd⟩, hdat, h1, ?_, rfl, I1.bare, raises_own T.exC T.tyC, q1 d (I1.hok.fresh M.dbig)⟩
    · by_cases hb : b = e
      · have q' : G'.get? b = some o := q
        rw [hb, ge] at q'; cases q'
      · exact (gk b hb).symm.trans q
    · rw [upd_ne (Ne.symm M.dne)]
      exact I1.hok.fresh M.new
/-- raise Refused(e) -/
def tRaise_ErrRef (C : Addr) (W : WX) (ta : TA) : TS := fun _ σ H => tMk_ErrRef C ta σ H fun cls d H' => W cls d σ H'
theorem ps_raise_ErrRef {a : Expr} {ta : TA} {W : WX} {p pos pos2 : Pos} {k : Nat} (hc : X.calm = true) (T : PySem.ErrRef.ErrTxt X.K X.mg X.prog C fI) (hr : Room k X.A) (tk : Takes X W) (ha : PA X [a] ta) (hg : Gl X "Refused" := by rfl)
    (he : starEach (a :: []) X.env = (false, eval a X.env) :: starEach [] X.env := by rfl) (hpl : (backTo pos (starEach [] X.env)).any (·.1) = false := by rfl) :
    PS X (.Raise (some (.Call (.Name "Refused" p) [a] [] pos)) none pos2) (tRaise_ErrRef C W ta) := ps_raise hc tk (pmk_ErrRef T hr ha hg he hpl)
/-- e.word, e the exception that the suite holds (at a; its class cls, its dict d) -/
def tFld_ErrRef (C : Addr) (a : Addr) (cls : Value) (d : Option Addr) (te : TE) : TE := fun σ H Q => te σ H fun x H1 => x = .ref a ∧ cls = .ref C ∧ ∃ (dd : Addr) (v : V), d = some dd ∧ H1 dd = some (.xd [(("word" : Str), v)]) ∧ Q v H1
theorem pe_fld_ErrRef {a : Addr} {oe : Obj} {cls : Value} {d : Option Addr} {pn : List (Addr × Obj)} {e : Expr} {te : TE} {pos : Pos} (T : PySem.ErrRef.ErrTxt X.K X.mg X.prog C fI) (hz : Zc cls d oe) (hf : ∃ vs, oe.data = .fields vs) (he : PE (X.suite a ((a, oe) :: pn)) e te)
    (hb : attributeBase e "word" X.env (eval e X.env) = eval e X.env := by rfl) :
    PE (X.suite a ((a, oe) :: pn)) (.Attribute e "word" pos) (tFld_ErrRef C a cls d te) := by
  refine ⟨fun pins s σ H Q I h => ?_⟩
  refine attr_of hb (thn (he.run pins s σ H _ I h) fun u s1 hh => ?_)
  obtain ⟨x, H1, I1, rx, ex, ec, dd, v, ed, ea, q⟩ := hh
  subst ex
  obtain rfl : u = Value.ref a := rx
  subst ec
  subst ed
  obtain ⟨ha, _⟩ := I1.pin (a, oe) (List.mem_append_left _ List.mem_cons_self)
  obtain ⟨vs, hd⟩ := hf
  have hx : ObjOk X.prog X.w H1 s1.heap dd (.xd [(("word" : Str), v)]) := I1.hok dd _ ea
  obtain ⟨mA, hns, hr⟩ := hx
  obtain ⟨od, ho, hl⟩ := lookIn_ns hns
  have l : List.lookup ("word" : Str) [(("word" : Str), v)] = some v := by simp [List.lookup]
  obtain ⟨u, hu, ru⟩ := RelO.some_of (v := v) (o := mA "word") (by rw [← l]; exact hr "word")
  have J : PySem.W.InstAt s1.heap a oe C (some od) := ⟨ha, hz.1, by unfold PySem.W.notCls; rw [hd] <;> rfl, by rw [hz.2]; exact ho⟩
  exact HandSPX.exc_get I1.kIn J T.ga T.gg T.exC (PySem.W.findObj_own T.hdC T.noN rfl (by rw [hl, hu])) (handed_of ru) ⟨v, H1, I1.tok _, ru, q⟩
end
end L2
namespace L2
open PySem PySem.Spec PyProof.Rows
/-- isinstance(e, c), e the error of the suite, with its dict -/
def rIsD_ErrRef (K : PySem.W.Frag) (D a : Addr) (cls : Value) (d : Option Addr) : List V → Hp → VK → Prop := fun xs H Q => cls = .ref D ∧ ∃ (dd : Addr) (fs : List (Str × V)), d = some dd ∧ H dd = some (.xd fs) ∧ ∃ (c : V) (cv : Value) (b : Bool), xs = [.ref a, c] ∧ (∀ u, RelV c u → u = cv) ∧ PySem.W.kitOne K (.ref D) cv = some b ∧ Q (.bl b) H
theorem call_isD_ErrRef {X : Cx} {a D : Addr} {cls : Value} {d : Option Addr} {oe : Obj} {pn : List (Addr × Obj)} (C : ExcC X.K D) (hz : Zc cls d oe) (hf : ∃ vs, oe.data = .fields vs) : CallR (X.suite a ((a, oe) :: pn)) (.builtin "isinstance") (rIsD_ErrRef X.K D a cls d) := by
  intro pins s σ H xs us Q I r h
  obtain ⟨rfl, dd, fs, rfl, hdd, c, cv, b, rfl, hcv, e, q⟩ := h
  cases r with
  | cons rx rr =>
    cases rr with
    | cons rt rr =>
      cases rr
      cases rx
      have ec := hcv _ rt
      subst ec
      obtain ⟨hget, _⟩ := I.pin (a, oe) (List.mem_append.mpr (.inl List.mem_cons_self))
      obtain ⟨vs, hv⟩ := hf
      have hx : ObjOk X.prog X.w H s.heap dd (.xd fs) := I.hok dd _ hdd
      obtain ⟨mA, hns, _⟩ := hx
      obtain ⟨od, ho, _⟩ := lookIn_ns hns
      have J : PySem.W.InstAt s.heap a oe D (some od) := ⟨hget, hz.1, by unfold PySem.W.notCls; rw [hv] <;> rfl, by rw [hz.2]; exact ho⟩
      have hcl : (PySem.W.clsIn X.K D).isSome = true := by
        obtain ⟨cd, hc, _⟩ := PySem.W.any_some C.hd
        rw [hc]; rfl
      exact PySem.W.kia_one (PySem.W.kitx_exc (gt := none) hcl C.hg C.hk C.hs C.ha C.hn C.ht C.hm) I.kIn J e (fun z => nomatch z) fun tk => ⟨.bl b, H, I.kept (t' := tk) fun _ _ z => z, rfl, q⟩
end L2
namespace FD
open PySem L2 Evl
/-- data in, data out, or an error of the class at Cx with its field -/
def spRX (K : PySem.W.Frag) (n : Nat) (R : List PyData → PyData → Prop) (Cx : Addr) (fld : Str) (Rx : List PyData → V → Prop) : Sp := fun vs H Q E => vs.length = n ∧ ∃ M ds, (∀ a ∈ M, H a ≠ none) ∧ DpAll K (hide M H) vs ds ∧
  ((∃ d, R ds d ∧ ∀ v H', Ex H H' → Dp K (hide M H') v d → Q v H') ∨ ∃ x, Rx ds x ∧ ∀ dd H', Ex H H' → (∀ a ∈ M, a ≠ dd) → H' dd = some (.xd [(fld, x)]) → E (.ref Cx) (some dd) H')
def FinRX (M : List Addr) (G : Hp) (Cx : Addr) (fld : Str) (x : V) (E : XK) : Prop := ∀ dd H', Ex G H' → (∀ a ∈ M, a ≠ dd) → H' dd = some (.xd [(fld, x)]) → E (.ref Cx) (some dd) H'
section
variable {P : Program} {w : World} {K : PySem.W.Frag} {mg : Str → Option Value} {base : Heap}
theorem def_RX {x qual : Str} {st : Stmt} {f : Addr} {fd : FuncData} {N ps : List Str} {k : Nat} {R : List PyData → PyData → Prop} {Cx : Addr} {fld : Str} {Rx : List PyData → V → Prop} (F : Fun K x qual st f fd) (S : FnScope N ps (defScope st)) (hN : ps.length ≤ N.length)
    (h : ∀ (cdv : Value) (A : Around) (outer : List Env) (s : Shared) (H : Hp) (E : XK), Room k (A.deeper (PyProof.Rows.envOfC qual (defScope st) s.heap.objs.size f cdv)) →
      ∃ t, PSs (cxOf (L2.CX P w) P w K mg base N qual (defScope st) f cdv A outer s H E) (defBody st) t ∧
        ∀ (M : List Addr) (G B : Hp) (ds : List PyData), ds.length = ps.length → (∀ d, R ds d → ∀ D : Ends, Fin ⟨K, M, G, B⟩ D d → FD.Run ⟨K, M, G, B⟩ t D M (startE N.length ds.length (ds.map Ent.d)) []) ∧
          (∀ x, Rx ds x → FinRX M G Cx fld x E → ∀ D : Ends, FD.Run ⟨K, M, G, B⟩ t D M (startE N.length ds.length (ds.map Ent.d)) [])) :
    FnOk P w K mg base (L2.CX P w) (k + 1) f fd ps (spRX K ps.length R Cx fld Rx) := by
  refine F.okX S (fun vs H Q E hs => hs.1) fun cdv A outer s H vs Q E hr hs => ?_
  obtain ⟨hn, M, ds, al, hd, hh⟩ := hs
  obtain ⟨t, ht, run⟩ := h cdv A outer s H E hr
  have hl : ds.length = ps.length := by rw [← hd.length]; exact hn
  refine ⟨t, ht, ?_⟩
  rcases hh with ⟨d, hR, kk⟩ | ⟨x, hx, kk⟩
  · exact (run M H (hide M H) ds hl).1 d hR _ (fun v H' e r => kk v H' e r) _ _ (ok_startD al hd (by rw [hn]; exact hN))
  · exact (run M H (hide M H) ds hl).2 x hx (fun dd H' e n q => kk dd H' e n q) _ _ _ (ok_startD al hd (by rw [hn]; exact hN))
end
section
variable {C : Cfg} {M : List Addr} {δ : List Ent} {μ μ1 : Mem} {te : TE} {ta : TA} {D : Ends} {t2 : TS} {i j n : Nat} {Cx a dd : Addr} {W : WX} {z : Int} {ds : List PyData} {c : Value} {ts : Addr → Value → Option Addr → TS} {Wout : WX} {R : List PyData → PyData → Prop} {Rx : List PyData → V → Prop} {fld : Str} {v : V} {d : PyData}
theorem r_raise_ErrRef {d : PyData} {x : V} (h : EvX C te M δ μ μ1 (.d d)) (hd : ∀ (H : Hp) (v : V), Dp C.K H v d → v = x) (k : ∀ (σ : L2.St) (dd : Addr) (H' : Hp), Ex C.G H' → (∀ a ∈ C.M0, a ≠ dd) → H' dd = some (.xd [(("word" : Str), x)]) → W (.ref Cx) (some dd) σ H') : FD.Run C (tRaise_ErrRef Cx W (tCons te tNil)) D M δ μ := fun σ H o =>
  h σ H o _ fun v H1 o1 x1 r1 => by
    refine ⟨v, rfl, fun dd hdd => ?_⟩
    have e := hd _ v r1
    subst e
    have e1 : Ex H1 (upd H1 dd (.xd [(("word" : Str), v)])) := Ex.new hdd
    exact k σ dd _ (fun b u q => e1 b u (o1.gr b u q)) (fun b hb q => o1.alloc b (o1.sub b hb) (by rw [q]; exact hdd)) upd_same
theorem q_tryRX (h : EvA C ta M δ μ μ1 (ds.map Ent.d))
    (hc : (∃ d, R ds d ∧ FD.Run C t2 D M (δ.set j (.d d)) μ1) ∨ ∃ x, Rx ds x ∧ PySem.W.exmOne C.K (.ref Cx) c = some true ∧ ∀ (a dd : Addr) (B : Hp), Ex C.B B → B dd = some (.xd [(fld, x)]) →
      FD.Run { C with B := B } (ts a (.ref Cx) (some dd)) { nx := fun σ' H' => t2 D (σ'.set i none) H', rt := D.rt, bk := fun σ' H' => D.bk (σ'.set i none) H', ct := fun σ' H' => D.ct (σ'.set i none) H' } M (δ.set i (.m a)) μ1) (hn : ds.length = n := by rfl) :
    FD.Run C (tSeq (fun D σ H => tAsg (tCallS (spRX C.K n R Cx fld Rx) (WE (wAs C.K c i ts Wout D)) ta) (gName j) D σ H) t2) D M δ μ := fun σ H o =>
  h σ H o _ fun vs H1 o1 x1 r1 => by
    have dp := dpAll_of r1
    refine ⟨by rw [dp.length]; exact hn, M, ds, o1.alloc, dp, ?_⟩
    rcases hc with ⟨d, hR, run⟩ | ⟨x, hx, hte, run⟩
    · exact .inl ⟨d, hR, fun v H' e r => run _ _ ((o1.grow e).set j (e := .d d) r)⟩
    · refine .inr ⟨x, hx, fun dd H' e ne hdd => ⟨true, hte, fun _ a ha => ?_, fun z => nomatch z⟩⟩
      have o2 := o1.grow e
      have hdM : dd ∉ M := fun z => ne dd z rfl
      exact run a dd (hide M H') o2.base (by rw [hide_out hdM]; exact hdd) _ _ ((o2.toB).set i (e := .m a) rfl)
/-- the error's field -/
theorem x_fld_ErrRef {i : Nat} (hi : δ[i]? = some (.m a)) (hB : C.B dd = some (.xd [(("word" : Str), v)])) (hv : ∀ H : Hp, Dp C.K H v d) : EvX C (tFld_ErrRef Cx a (.ref Cx) (some dd) (tVar i)) M δ μ μ (.d d) := fun σ H o Q k => by
  obtain ⟨u, hu, eu⟩ := o.slot i _ hi (fun z => nomatch z)
  have eu : u = .ref a := eu
  subst eu
  exact ⟨_, hu, rfl, rfl, dd, v, rfl, (hide_some (o.base dd _ hB)).2, k _ H o (Ex.refl _) (hv _)⟩
theorem x_isD_ErrRef {i : Nat} {cw : V} {cv : Value} {b : Bool} {fs : List (Str × V)} (hi : δ[i]? = some (.m a)) (hB : C.B dd = some (.xd fs)) (hc : ∀ u, RelV cw u → u = cv) (hk : PySem.W.kitOne C.K (.ref Cx) cv = some b) : EvX C (tCB (rIsD_ErrRef C.K Cx a (.ref Cx) (some dd)) (tCons (tVar i) (tCons (tC cw) tNil))) M δ μ μ (.d (.bool b)) := fun σ H o Q k => by
  obtain ⟨u, hu, eu⟩ := o.slot i _ hi (fun z => nomatch z)
  have eu : u = .ref a := eu
  subst eu
  exact ⟨_, hu, rfl, dd, fs, rfl, (hide_some (o.base dd _ hB)).2, cw, cv, b, rfl, hc, hk, k _ H o (Ex.refl _) (.bl b)⟩
end
end FD
/-! walks over one's own list that stays as it is -/
namespace FD
open PySem L2 Evl
structure WalkM (K : PySem.W.Frag) (J : It) (N : List Addr → Hp → Prop) (xs : List PyData) : Prop where
  go : ∀ (M : List Addr) (i : Nat) (H : Hp), i < xs.length → N M H → J.go i H
  stop : ∀ (M : List Addr) (H : Hp), N M H → J.stop xs.length H
  yld : ∀ (M : List Addr) (i : Nat) (H : Hp) (x : V) (H' : Hp), i < xs.length → N M H → J.yld i H x H' → Ex H H' ∧ ∃ d, xs[i]? = some d ∧ Dp K (hide M H') x d
def OwnL (K : PySem.W.Frag) (a : Addr) (xs : List PyData) (M : List Addr) (H : Hp) : Prop := ∃ vs, H a = some (.lst vs) ∧ DpAll K (hide M H) vs xs
theorem walk_own {K : PySem.W.Frag} {a : Addr} {xs : List PyData} : WalkM K (Itl K a) (OwnL K a xs) xs where
  go := fun M i H hi ⟨vs, h, hd⟩ => by
    rw [← hd.length] at hi
    exact ⟨vs, vs[i], SqL.of h, by simp [hi]⟩
  stop := fun M H ⟨vs, h, hd⟩ => ⟨vs, SqL.of h, by rw [hd.length]; exact Nat.le_refl _⟩
  yld := fun M i H y H' hi ⟨vs, h, hd⟩ q => by
    obtain ⟨e, q⟩ := q
    subst e
    refine ⟨Ex.refl _, xs[i], by simp [hi], ?_⟩
    obtain ⟨v, h1, h2⟩ := hd.get (i := i) (d := xs[i]) (by simp [hi])
    have := q vs (SqL.of h)
    rw [this] at h1
    cases h1
    exact h2
theorem own_here {K : PySem.W.Frag} {M0 : List Addr} {G B : Hp} {M : List Addr} {δ : List Ent} {μ : Mem} {σ : L2.St} {H : Hp} {a : Addr} {xs : List PyData} (o : Ok ⟨K, M0, G, B⟩ M δ μ σ H) (h : (a, MO.lst xs) ∈ μ) : OwnL K a xs M H := (o.mem _ h).2.2
section
variable {C : Cfg} {M : List Addr} {δ : List Ent} {μ μ' μ1 : Mem} {t : TT} {te : TE}
theorem x_lcMl {a : Addr} {te0 : TE} {g : TG} {vs : List Nat} {xs : List PyData} (S : Nat → Mem) (b : Nat → Bool) (f : Nat → PyData) (h0 : EvX C te0 M δ μ (S 0) (.m a)) (hm : ∀ i, i ≤ xs.length → (a, MO.lst xs) ∈ S i) (hz : xs.length ≤ 100000)
    (hs : ∀ (i : Nat) (d : PyData), xs[i]? = some d → ∀ (G B : Hp) (D : Addr), LcTurn { C with G := G, B := B } g t te vs (D :: M) δ (S i) (S (i + 1)) d (b i) (f i)) :
    EvX C (tLc (iList C.K te0) g t te vs) M δ μ (S xs.length) (.l (lcD b f xs.length)) := fun σ H o Q k => by
  refine h0 σ H o _ fun va H1 o1 x1 ra => ?_
  have ra : va = .ref a := ra
  subst ra
  obtain ⟨_, _, vs0, q1, q2⟩ := o1.mem _ (hm 0 (Nat.zero_le _))
  refine ⟨a, rfl, ⟨vs0, SqL.of q1⟩, fun D hD => ?_⟩
  have W := walk_own (K := C.K) (a := a) (xs := xs)
  have oB := o1.toB
  have hDM : D ∉ M := o1.fresh hD
  have o2 : Ok { C with B := hide M H1 } (D :: M) δ (S 0) σ (upd H1 D (.lst [])) :=
    (oB.new hD (mo := .lst []) ⟨[], upd_same, .nil⟩).mems (fun p hp => List.mem_cons_of_mem _ hp) o1.nd
  have hS : ∀ {i : Nat} {H'}, Ok { C with B := hide M H1 } (D :: M) δ (S i) σ H' → (∀ p ∈ S i, p.1 ∈ M) → ∀ p ∈ S i, p.1 ≠ D := fun o' h p hp z => hDM (z ▸ h p hp)
  have gD : C.G D = none := by
    cases z : C.G D with
    | none => rfl
    | some u => have := o1.gr D u z; rw [hD] at this; cases this
  refine ⟨fun i m H' => m = xs.length - i ∧ i ≤ xs.length ∧ (∀ p ∈ S i, p.1 ∈ M) ∧ Ok { C with B := hide M H1 } (D :: M) δ (S i) σ H' ∧ ∃ acc, H' D = some (.lst acc) ∧ DpAll C.K (hide (D :: M) H') acc (lcD b f i),
    ⟨xs.length, by simp, Nat.zero_le _, fun p hp => (o1.mem p hp).1, o2, [], upd_same, .nil⟩, ?_⟩
  rintro i m H' ⟨rfl, hi', hSM, oi, acc, hacc, dacc⟩
  by_cases hlt : i < xs.length
  · refine .inr ⟨W.go (D :: M) i H' hlt (own_here oi (hm i hi')), fun H'' => (∀ p ∈ S (i + 1), p.1 ∈ M) ∧ Ok { C with B := hide M H1 } (D :: M) δ (S (i + 1)) σ H'' ∧ ∃ acc, H'' D = some (.lst acc) ∧ DpAll C.K (hide (D :: M) H'') acc (lcD b f (i + 1)),
      fun H'' q => ⟨xs.length - (i + 1), by omega, rfl, hlt, q⟩, fun x H2 y => ?_⟩
    obtain ⟨e2, d, hd, dx⟩ := W.yld (D :: M) i H' x H2 hlt (own_here oi (hm i hi')) y
    have o3 := oi.grow e2
    have nD : ∀ p ∈ S i, p.1 ≠ D := hS oi hSM
    -- all that is hidden and not spoken of stays: the list at D
    have o4 := o3.toG
    obtain ⟨ts, δ', μ1, tg, hts, ht, he, hno⟩ := (hs i d hd (hide ((S i).map (·.1)) H2) (hide M H1) D).go
    have hD2 : H2 D = some (.lst acc) := e2 D _ hacc
    have gD2 : hide ((S i).map (·.1)) H2 D = some (.lst acc) := by
      rw [hide_out (fun z => ?_)]
      · exact hD2
      · obtain ⟨r, hr, er⟩ := List.mem_map.mp z
        exact nD r hr er
    refine tg _ _ _ _ _ _ rfl (o4.wiped vs) dx _ fun σ2 o5 hl2 hσ2 => ⟨wipe_eq (by rw [hl2, wipe_length]) hσ2 hts, ?_⟩
    refine ht σ2 H2 o5 _ fun H3 o6 x6 => ?_
    have memM : ∀ {μ9 : Mem} {δ9 : List Ent} {σ9 : L2.St} {H9 : Hp}, Ok { C with G := hide ((S i).map (·.1)) H2, B := hide M H1 } (D :: M) δ9 μ9 σ9 H9 → ∀ p ∈ μ9, p.1 ∈ M := fun o9 p hp => by
      have a := (o9.mem p hp).1
      have g9 : hide ((S i).map (·.1)) H2 p.1 = none := (o9.mem p hp).2.1
      rcases List.mem_cons.mp a with z | z
      · rw [z, gD2] at g9; cases g9
      · exact z
    cases hb : b i with
    | true =>
      rw [if_pos rfl]
      refine he hb σ2 H3 o6 _ fun v H4 o7 x7 r7 => ?_
      have hD4 : H4 D = some (.lst acc) := o7.gr D _ gD2
      have o8 : Ok { C with B := hide M H1 } (D :: M) δ (S (i + 1)) σ H4 := o3.swap (o3.ofG o7) (x6.trans x7)
      have hSM' : ∀ p ∈ S (i + 1), p.1 ∈ M := memM o7
      have hlen : acc.length ≤ i := by rw [dacc.length]; exact lcD_len b f i
      refine ⟨acc, hD4, sz_lt (by omega), hSM', o8.writeH List.mem_cons_self (fun p hp z => hDM (z ▸ hSM' p hp)) gD, _, upd_same, ?_⟩
      rw [hide_upd List.mem_cons_self, lcD_yes hb]
      exact (dpAll_mono ((hide_ex e2).trans (x6.trans x7)) _ _ dacc).append (.cons r7 .nil)
    | false =>
      rw [if_neg Bool.false_ne_true]
      have hm := hno hb
      subst hm
      refine ⟨memM o6, o3.swap (o3.ofG o6) x6, acc, o6.gr D _ gD2, ?_⟩
      rw [lcD_no hb]
      exact dpAll_mono ((hide_ex e2).trans x6) _ _ dacc
  · have ei : i = xs.length := by omega
    subst ei
    refine .inl ⟨W.stop (D :: M) H' (own_here oi (hm _ hi')), ?_⟩
    have s1 : ∀ a ∈ M, a ∈ D :: M := fun a ha => List.mem_cons_of_mem _ ha
    have oE : Ok C M δ (S xs.length) σ H' := (oi.drop (M := M) s1 hSM o1.sub).reB o1.base
    have xE : Ex (hide M H) (hide M H') := x1.trans (oi.base.trans (hide_sub s1))
    refine k _ H' oE xE ⟨D, acc, rfl, ?_, dpAll_mono (hide_sub s1) _ _ dacc⟩
    rw [hide_out hDM]; exact hacc
theorem x_lcM {a : Addr} {te0 : TE} {g : TG} {vs : List Nat} {xs : List PyData} (S : Nat → Mem) (b : Nat → Bool) (f : Nat → PyData) (h0 : EvX C te0 M δ μ (S 0) (.m a)) (hm : ∀ i, i ≤ xs.length → (a, MO.lst xs) ∈ S i) (hz : xs.length ≤ 100000)
    (hs : ∀ (i : Nat) (d : PyData), xs[i]? = some d → ∀ (G B : Hp) (D : Addr), LcTurn { C with G := G, B := B } g t te vs (D :: M) δ (S i) (S (i + 1)) d (b i) (f i)) :
    EvX C (tLc (iList C.K te0) g t te vs) M δ μ (S xs.length) (.d (.list (lcD b f xs.length))) := x_wl (x_lcMl S b f h0 hm hz hs)
end
section
variable {C : Cfg} {M : List Addr} {δ : List Ent} {μ μ1 : Mem} {D : Ends} {ts t2 : TS}
theorem r_forM {a : Addr} {te0 : TE} {g : TG} {xs : List PyData} (hi : EvX C te0 M δ μ μ1 (.m a)) (P : Nat → List Ent → Mem → Prop) (hm : ∀ (i : Nat) (δ1 : List Ent) (μ1 : Mem), i ≤ xs.length → P i δ1 μ1 → (a, MO.lst xs) ∈ μ1) (h0 : P 0 δ μ1)
    (hs : ∀ B, Ex C.B B → ∀ (i : Nat) (d : PyData) (δ1 : List Ent) (μ1 : Mem), xs[i]? = some d → P i δ1 μ1 → ∃ tl δ2, TgX C.K g tl d δ1 δ2 ∧
      Run { C with B := B } ts { D with nx := NX { C with B := B } M (P (i + 1)), ct := NX { C with B := B } M (P (i + 1)), bk := D.nx } M δ2 μ1)
    (hd : ∀ δ1 μ1, P xs.length δ1 μ1 → Nx C D M δ1 μ1) : Run C (tFor (iList C.K te0) g ts) D M δ μ := fun σ H o => by
  refine hi σ H o _ fun va H1 o1 x1 ra => ?_
  have ra : va = .ref a := ra
  subst ra
  obtain ⟨_, _, vs0, q1, q2⟩ := o1.mem _ (hm 0 _ _ (Nat.zero_le _) h0)
  have W := walk_own (K := C.K) (a := a) (xs := xs)
  refine ⟨a, rfl, ⟨vs0, SqL.of q1⟩, fun i m σ' H' => m = xs.length - i ∧ i ≤ xs.length ∧ NX { C with B := hide M H1 } M (P i) σ' H', ⟨xs.length, by simp, Nat.zero_le _, δ, μ1, h0, o1.toB⟩, ?_⟩
  rintro i m σ' H' ⟨rfl, hi', δ1, μ1, hP, oi⟩
  by_cases hlt : i < xs.length
  · refine .inr ⟨W.go M i H' hlt (own_here oi (hm i _ _ hi' hP)), NX { C with B := hide M H1 } M (P (i + 1)), fun σ2 H2 q => ⟨xs.length - (i + 1), by omega, rfl, hlt, q⟩, fun x H2 y => ?_⟩
    obtain ⟨e2, d, hd, dx⟩ := W.yld M i H' x H2 hlt (own_here oi (hm i _ _ hi' hP)) y
    obtain ⟨tl, δ2, tg, run⟩ := hs (hide M H1) o1.base i d δ1 μ1 hd hP
    exact tg { C with B := hide M H1 } _ _ _ _ _ rfl (oi.grow e2) dx _ fun σ3 o3 _ _ => run σ3 H2 o3
  · have ei : i = xs.length := by omega
    subst ei
    exact .inl ⟨W.stop M H' (own_here oi (hm _ _ _ hi' hP)), hd δ1 μ1 hP σ' H' (oi.reB o1.base)⟩
end
end FD
/-! defs over objects that may raise -/
namespace FD
open PySem L2 Evl
def spEX (K : PySem.W.Frag) (n : Nat) (R : List Ent → Mem → PyData → Mem → Prop) (Cx : Addr) (fld : Str) (Rx : List Ent → Mem → V → Prop) : Sp := fun vs H Q E => vs.length = n ∧ ∃ M es μ, (∀ a ∈ M, H a ≠ none) ∧ Paired (EntOk K (hide M H)) es vs ∧ (∀ p ∈ μ, p.1 ∈ M ∧ MOok K (hide M H) H p.1 p.2) ∧ (ad μ).Nodup ∧
  ((∃ d μ', ad μ' = ad μ ∧ R es μ d μ' ∧ ∀ v H', Ex (hide (ad μ) H) H' → (∀ p ∈ μ', MOok K (hide M H') H' p.1 p.2) → Dp K (hide M H') v d → Q v H') ∨
    ∃ x, Rx es μ x ∧ ∀ dd H', Ex (hide (ad μ) H) H' → (∀ p ∈ μ, MOok K (hide M H') H' p.1 p.2) → dd ∉ M → H' dd = some (.xd [(fld, x)]) → E (.ref Cx) (some dd) H')
def FinEX (C : Cfg) (Cx : Addr) (fld : Str) (x : V) (E : XK) (μ' : Mem) : Prop := ∀ dd M' H, Ex C.G H → (∀ a ∈ C.M0, a ∈ M') → (∀ p ∈ μ', MOok C.K (hide M' H) H p.1 p.2) → dd ∉ M' → H dd = some (.xd [(fld, x)]) → E (.ref Cx) (some dd) H
section
variable {P : Program} {w : World} {K : PySem.W.Frag} {mg : Str → Option Value} {base : Heap}
theorem def_EX {x qual : Str} {st : Stmt} {f : Addr} {fd : FuncData} {N ps : List Str} {k n : Nat} {R : List Ent → Mem → PyData → Mem → Prop} {Cx : Addr} {fld : Str} {Rx : List Ent → Mem → V → Prop} (F : Fun K x qual st f fd) (S : FnScope N ps (defScope st)) (hN : ps.length ≤ N.length) (hp : ps.length = n)
    (h : ∀ (cdv : Value) (A : Around) (outer : List Env) (s : Shared) (H : Hp) (E : XK), Room k (A.deeper (PyProof.Rows.envOfC qual (defScope st) s.heap.objs.size f cdv)) →
      ∃ t, PSs (cxOf (L2.CX P w) P w K mg base N qual (defScope st) f cdv A outer s H E) (defBody st) t ∧
        ∀ (M : List Addr) (G B : Hp) (es : List Ent) (μ : Mem), (∀ d μ', R es μ d μ' → ∀ D : Ends, FinE ⟨K, M, G, B⟩ D d μ' → FD.Run ⟨K, M, G, B⟩ t D M (startE N.length es.length es) μ) ∧
          (∀ y, Rx es μ y → FinEX ⟨K, M, G, B⟩ Cx fld y E μ → ∀ D : Ends, FD.Run ⟨K, M, G, B⟩ t D M (startE N.length es.length es) μ)) :
    FnOk P w K mg base (L2.CX P w) (k + 1) f fd ps (spEX K n R Cx fld Rx) := by
  refine F.okX S (fun vs H Q E hs => hs.1.trans hp.symm) fun cdv A outer s H vs Q E hr hs => ?_
  obtain ⟨hn, M, es, μ, al, he, hm, nd, hh⟩ := hs
  obtain ⟨t, ht, run⟩ := h cdv A outer s H E hr
  refine ⟨t, ht, ?_⟩
  rcases hh with ⟨d, μ', had, hR, kk⟩ | ⟨y, hy, kk⟩
  · exact (run M (hide (ad μ) H) (hide M H) es μ).1 d μ' hR _ (fun v M' H' e s m r => kk v H' e (fun p hp => (m p hp).mono (hide_sub s) fun _ q => q) (dp_mono (hide_sub s) _ _ r)) _ _ (ok_startE al he hm nd (by rw [hn, ← hp]; exact hN))
  · exact (run M (hide (ad μ) H) (hide M H) es μ).2 y hy (fun dd M' H' e s m nM q => kk dd H' e (fun p hp => (m p hp).mono (hide_sub s) fun _ q => q) (fun z => nM (s dd z)) q) _ _ _ (ok_startE al he hm nd (by rw [hn, ← hp]; exact hN))
end
section
variable {C : Cfg} {M : List Addr} {δ : List Ent} {μ μ1 μ0 μ' : Mem} {te : TE} {ta : TA} {D : Ends} {n : Nat} {Cx : Addr} {R : List Ent → Mem → PyData → Mem → Prop} {Rx : List Ent → Mem → V → Prop} {fld : Str} {x : V} {d : PyData} {E : XK} {es : List Ent}
theorem r_raiseE (h : EvX C te M δ μ μ1 (.d d)) (hd : ∀ (H : Hp) (v : V), Dp C.K H v d → v = x) (hs : ∀ p ∈ μ', p ∈ μ1) (k : FinEX C Cx "word" x E μ') : FD.Run C (tRaise_ErrRef Cx (fun cls d _ H => E cls d H) (tCons te tNil)) D M δ μ := fun σ H o =>
  h σ H o _ fun v H1 o1 x1 r1 => by
    refine ⟨v, rfl, fun dd hdd => ?_⟩
    have e := hd _ v r1
    subst e
    have e1 : Ex H1 (upd H1 dd (.xd [(("word" : Str), v)])) := Ex.new hdd
    have o2 := o1.grow e1
    exact k dd M _ o2.gr o2.sub (fun p hp => (o2.mem p (hs p hp)).2.2) (o1.fresh hdd) upd_same
theorem swap_id (hsub : ∀ p ∈ μ0, p ∈ μ1) (nd : (ad μ1).Nodup) : Swap μ0 μ0 μ1 μ1 where
  sub := hsub
  ad0 := rfl
  ad1 := rfl
  new := fun p hp => by
    by_cases h : p.1 ∈ ad μ0
    · left
      obtain ⟨q, hq, e⟩ := List.mem_map.mp h
      obtain ⟨i, hi⟩ := List.getElem?_of_mem hp
      obtain ⟨j, hj⟩ := List.getElem?_of_mem (hsub q hq)
      obtain ⟨a, y⟩ := p
      obtain ⟨b, z⟩ := q
      have e : b = a := e
      subst e
      have ij := nodup_fst nd hi hj
      subst ij
      rw [hi] at hj
      cases hj
      exact hq
    · exact .inr ⟨hp, h⟩
theorem callEX {σ : L2.St} {H : Hp} {W : WX} {Q : VK} (o : Ok C M δ μ σ H) (h : EvA C ta M δ μ μ1 es) (hsub : ∀ p ∈ μ0, p ∈ μ1) (hn : es.length = n)
    (hc : (∃ d μ0' μ2, R es μ0 d μ0' ∧ Swap μ0 μ0' μ1 μ2 ∧ ∀ v H', Ok C M δ μ2 σ H' → Ex (hide M H) (hide M H') → Dp C.K (hide M H') v d → Q v H') ∨
      ∃ x, Rx es μ0 x ∧ ∀ dd H', Ok C M δ μ1 σ H' → Ex (hide M H) (hide M H') → dd ∉ M → H' dd = some (.xd [(fld, x)]) → W (.ref Cx) (some dd) σ H') (nd0 : (ad μ1).Nodup → (ad μ0).Nodup) :
    tCallS (spEX C.K n R Cx fld Rx) (WE W) ta σ H Q := by
  refine h σ H o _ fun vs H1 o1 x1 r1 => ?_
  refine ⟨by rw [← paired_len r1]; exact hn, M, es, μ0, o1.alloc, r1, fun p hp => let q := o1.mem p (hsub p hp); ⟨q.1, q.2.2⟩, nd0 o1.nd, ?_⟩
  rcases hc with ⟨d, μ0', μ2, hR, sw, kk⟩ | ⟨x, hx, kk⟩
  · refine .inl ⟨d, μ0', sw.ad0, hR, fun v H2 e2 m2 d2 => ?_⟩
    obtain ⟨o2, x2⟩ := after_E o1 sw e2 m2
    exact kk v H2 o2 (x1.trans x2) d2
  · refine .inr ⟨x, hx, fun dd H2 e2 m2 nM q => ?_⟩
    obtain ⟨o2, x2⟩ := after_E o1 (swap_id hsub o1.nd) e2 m2
    exact kk dd H2 o2 (x1.trans x2) nM q
end
end FD
/-! dict comprehensions, a text sought in a dict, tuple.count -/
namespace FD
open PySem PySem.Spec L2 Evl PyProof.Rows
section
variable {C : Cfg} {M : List Addr} {δ : List Ent} {μ μ1 μ2 μ' : Mem} {te ta tb tk tv : TE} {g : TG} {wi : TI} {vs : List Nat} {xs : List PyData} {mo : MO} {D : Ends} {t2 : TS} {i j : Nat} {a : Addr} {kvs : List (Key × PyData)}
/-- an expression that makes an object of one's own -/
def EvN (C : Cfg) (te : TE) (M : List Addr) (δ : List Ent) (μ μ1 : Mem) (mo : MO) : Prop := ∀ (σ : L2.St) (H : Hp), Ok C M δ μ σ H → ∀ Q : VK, (∀ p H', p ∉ M → Ok C (p :: M) δ ((p, mo) :: μ1) σ H' → Ex (hide M H) (hide (p :: M) H') → Q (.ref p) H') → te σ H Q
theorem x_dc {N : Hp → Prop} {l : Dct} (hi : EvIN C wi M δ μ μ' N xs) (hN : ∀ (B : Hp) (p : Addr) (q : MO) (σ : L2.St) (H : Hp), Ok { C with B := B } (p :: M) δ ((p, q) :: μ') σ H → N H) (hl : l.length = xs.length) (hz : xs.length < 1000) (nd : (l.map (·.1)).Nodup) (hnt : ∀ q ∈ l, ∀ k : List Str, q.2 ≠ .tuple (k.map .str))
    (hs : ∀ (i : Nat) (d : PyData) (q : Str × PyData), xs[i]? = some d → l[i]? = some q → ∀ (B : Hp) (p : Addr), ∃ ts δ', TgX C.K g ts d (wipeE δ vs) δ' ∧ (∀ k ∈ ts, k ∈ vs) ∧ EvX { C with B := B } tk (p :: M) δ' ((p, .dK (kd (l.take i))) :: μ') ((p, .dK (kd (l.take i))) :: μ') (.d (.str q.1)) ∧ EvX { C with B := B } tv (p :: M) δ' ((p, .dK (kd (l.take i))) :: μ') ((p, .dK (kd (l.take i))) :: μ') (.d q.2)) :
    EvN C (tDc wi g tYes tk tv vs) M δ μ μ' (.dK (kd l)) := fun σ H o Q k => by
  refine hi σ H o _ fun J H1 o1 x1 W D hD => ?_
  have oB := o1.toB
  have hDM : D ∉ M := o1.fresh hD
  have o2 : Ok { C with B := hide M H1 } (D :: M) δ ((D, .dK (kd (l.take 0))) :: μ') σ (upd H1 D (.dK [])) := oB.new hD (mo := .dK (kd [])) ⟨[], upd_same, .nil⟩
  refine ⟨fun i m H' => m = xs.length - i ∧ i ≤ xs.length ∧ Ok { C with B := hide M H1 } (D :: M) δ ((D, .dK (kd (l.take i))) :: μ') σ H', ⟨xs.length, by simp, Nat.zero_le _, o2⟩, ?_⟩
  rintro i m H' ⟨rfl, hi', oi⟩
  by_cases hlt : i < xs.length
  · refine .inr ⟨W.go (D :: M) i H' hlt oi.alloc oi.base (hN _ _ _ _ _ oi), fun H'' => Ok { C with B := hide M H1 } (D :: M) δ ((D, .dK (kd (l.take (i + 1)))) :: μ') σ H'', fun H'' q => ⟨xs.length - (i + 1), by omega, rfl, hlt, q⟩, fun x H2 y => ?_⟩
    obtain ⟨e2, d, hd, dx⟩ := W.yld (D :: M) i H' x H2 hlt oi.alloc oi.base (hN _ _ _ _ _ oi) y
    have o3 := oi.grow e2
    have o4 := o3.toG
    obtain ⟨q, hq⟩ : ∃ q, l[i]? = some q := ⟨_, List.getElem?_eq_getElem (by omega)⟩
    obtain ⟨ts, δ', tg, hts, hk, hv⟩ := hs i d q hd hq (hide M H1) D
    refine tg { C with B := hide M H1 } _ _ _ _ _ rfl (o3.wiped vs) dx _ fun σ2 o5 hl2 hσ2 => ⟨wipe_eq (by rw [hl2, wipe_length]) hσ2 hts, ?_⟩
    refine t_yes σ2 H2 o5 _ fun H3 o6 x6 => ?_
    rw [if_pos rfl]
    refine hk σ2 H3 o6 _ fun y H4 o7 x7 r7 => ?_
    refine hv σ2 H4 o7 _ fun z H5 o8 x8 r8 => ?_
    have o9 : Ok { C with B := hide M H1 } (D :: M) δ ((D, .dK (kd (l.take i))) :: μ') σ H5 := o3.swap o8 ((x6.trans x7).trans x8)
    have e4 : y = .str q.1 := Dp.str_of r7
    obtain ⟨_, _, ws, q3, q4⟩ := o9.mem _ List.mem_cons_self
    have hnk : q.1 ∉ (l.take i).map (·.1) := fun z => by
      rw [List.map_take] at z
      obtain ⟨n, hn⟩ := List.getElem?_of_mem z
      have hlt := (List.getElem?_eq_some_iff.mp hn).1
      rw [List.length_take] at hlt
      rw [List.getElem?_take, if_pos (by omega)] at hn
      have hq2 : (l.map (·.1))[i]? = some q.1 := by rw [List.getElem?_map, hq]; rfl
      have en := List.getElem?_eq_some_iff.mp hn
      have ei := List.getElem?_eq_some_iff.mp hq2
      exact absurd (en.2.trans ei.2.symm) (List.pairwise_iff_getElem.mp nd n i en.1 ei.1 (by omega))
    refine ⟨ws, .inr q.1, e4, q3, sz_lt (by rw [dc_len q4, List.length_take]; omega), ?_⟩
    have et : l.take (i + 1) = l.take i ++ [q] := by rw [List.take_add_one, hq]; rfl
    rw [et]
    exact o9.write (j := 0) rfl ⟨_, upd_same, dc_snoc q4 hnk ⟨r8, fun k e => absurd e (hnt q (List.mem_of_getElem? hq) k)⟩⟩
  · have ei : i = xs.length := by omega
    subst ei
    refine .inl ⟨W.stop (D :: M) H' oi.alloc oi.base (hN _ _ _ _ _ oi), ?_⟩
    have et : l.take xs.length = l := List.take_of_length_le (by omega)
    rw [et] at oi
    exact k D H' hDM (oi.reB o1.base) (x1.trans oi.base)
theorem n_lock (hj : μ[j]? = some (a, .dK kvs)) (h : ∀ od ws, EvN C te M δ (μ.set j (a, .fz od ws kvs)) (μ.set j (a, .fz od ws kvs)) mo) : EvN C (tLockE te) M δ μ μ mo := fun σ H o Q k => by
  obtain ⟨ws, e0, kk⟩ := ok_lock o hj
  refine ⟨a, .dK ws, e0, trivial, fun od => h od ws _ _ (kk od) _ fun p H1 pM o1 x1 => ?_⟩
  have hj' : ((p, mo) :: μ)[j + 1]? = some (a, .dK kvs) := hj
  obtain ⟨e1, aM, o'⟩ := ok_unlock (ws := ws) (od := od) hj' o1
  have aM0 : a ∈ M := (o.mem _ (List.mem_of_getElem? hj)).1
  rw [hide_upd aM0] at x1
  exact ⟨e1, k p _ pM o' (by rw [hide_upd aM]; exact x1)⟩
theorem r_asgNw (h : EvN C te M δ μ μ1 mo) (k : ∀ p, p ∉ M → Nx C D (p :: M) (δ.set i (.m p)) ((p, mo) :: μ1)) : Run C (tAsg te (gName i)) D M δ μ := fun σ H o => h σ H o _ fun p H1 pM o1 x1 => k p pM _ _ (o1.set i (e := .m p) rfl)
theorem q_asgNw (h : EvN C te M δ μ μ1 mo) (k : ∀ p, p ∉ M → Run C t2 D (p :: M) (δ.set i (.m p)) ((p, mo) :: μ1)) : Run C (tSeq (tAsg te (gName i)) t2) D M δ μ := r_asgNw (D := { D with nx := t2 D }) h k
theorem q_lockN (hj : μ[j]? = some (a, .dK kvs)) (h : ∀ od ws, EvN C te M δ (μ.set j (a, .fz od ws kvs)) (μ.set j (a, .fz od ws kvs)) mo) (k : ∀ p, p ∉ M → Run C t2 D (p :: M) (δ.set i (.m p)) ((p, mo) :: μ)) : Run C (tSeq (tLock (tAsg te (gName i))) t2) D M δ μ :=
  q_lock hj fun od ws => r_asgNw (h od ws) fun p hp => lk_nx (μ := (p, mo) :: μ) (j := j + 1) hj (k p hp)
/-! ### k in d -/
theorem valV_none {K : PySem.W.Frag} {Hh : Hp} : ∀ {l : Dct} {ws : List (Key × V)} {k : Str}, DcOk K Hh ws (kd l) → k ∉ l.map (·.1) → valV ws (.inr k) = none
  | [], _, _, .nil, _ => rfl
  | p :: l, w :: ws, k, .cons h t, hk => by
    have e : w.1 = .inr p.1 := h.1
    have ne : ¬ w.1 = (Sum.inr k : Key) := by
      rw [e]
      intro z
      exact hk (by rw [List.map_cons, ← Sum.inr.inj z]; exact List.mem_cons_self)
    have ih := valV_none t fun z => hk (List.mem_cons_of_mem _ z)
    unfold valV at ih ⊢
    simp [ne, ih]
theorem x_notinK {l : Dct} {k : Str} {td ty : TE} (hk : EvX C ty M δ μ μ1 (.d (.str k))) (hx : EvX C td M δ μ1 μ2 (.m a)) (hm : (a, mo) ∈ μ2) (hd : IsDct mo l) : EvX C (tDNotIn ty td) M δ μ μ2 (.d (.bool (!decide (k ∈ l.map (·.1))))) := fun σ H o Q kk =>
  hk σ H o _ fun y H1 o1 x1 r1 => hx σ H1 o1 _ fun x H2 o2 x2 r2 => by
    have e1 : x = .ref a := r2
    have e2 : y = .str k := Dp.str_of r1
    obtain ⟨ws, rd, dc⟩ := dct_rd (o2.mem _ hm).2.2 hd
    by_cases h : k ∈ l.map (·.1)
    · obtain ⟨d, hv⟩ : ∃ d, valD l k = some d := by
        obtain ⟨q, hq, rfl⟩ := List.mem_map.mp h
        cases z : valD l q.1 with
        | some d => exact ⟨d, rfl⟩
        | none => exact absurd z (by unfold valD; rw [Option.map_eq_none_iff, List.find?_eq_none]; exact fun y => y q hq (decide_eq_true rfl))
      obtain ⟨v, e3, e4⟩ := dc_val dc hv
      refine ⟨a, some v, e1, .inl ⟨ws, .inr k, rd, e2, e3.symm⟩, ?_⟩
      have := kk (.bl false) H2 o2 (x1.trans x2) (by rw [decide_eq_true h]; exact .bl _)
      exact this
    · refine ⟨a, none, e1, .inl ⟨ws, .inr k, rd, e2, (valV_none dc h).symm⟩, ?_⟩
      have := kk (.bl true) H2 o2 (x1.trans x2) (by rw [decide_eq_false h]; exact .bl _)
      exact this
/-! ### t.count(x) -/
abbrev rTCount (K : PySem.W.Frag) : V → List V → Hp → VK → Prop := fun x xs H Q => ∃ p, ∃ ys : List Str, ∃ z, x = .ref p ∧ xs = [.str z] ∧ SqT K H p (ys.map V.str) ∧ Q (.int (ys.countP (· == z) : Nat)) H
theorem x_tcount {k : List Str} {z : Str} (hk : k ≠ []) (hx : EvX C ta M δ μ μ1 (.p k)) (h : EvX C te M δ μ1 μ2 (.d (.str z))) :
    EvX C (tBMt C.K (rTCount C.K) ta (tCons te tNil)) M δ μ μ2 (.d (.int (k.countP (· == z) : Nat))) := fun σ H o Q kk => hx σ H o _ fun v H1 o1 x1 r1 => by
  obtain ⟨p, e1, e2, e3⟩ := r1
  obtain ⟨ob, g, po⟩ := e3 hk
  refine ⟨⟨p, ob, _, e1, (hide_some g).2, po⟩, ?_⟩
  refine h σ H1 o1 _ fun u H2 o2 x2 r2 => ?_
  exact ⟨p, k, z, e1, by rw [Dp.str_of r2], ex_t hide_le (ex_t x2 e2), kk _ H2 o2 (x1.trans x2) (.int _)⟩
/-! ### a written tuple of texts; a part of a row -/
def tTupF (t : TA) : TE := fun σ H Q => t σ H fun xs H1 => xs.length ≤ sizeLine ∧ ∀ p o, plO o → H1 p = none → Q (.ref p) (upd H1 p (.frz o (.tup xs)))
theorem x_tupF {k : List Str} {tr : TA} (h : EvA C tr M δ μ μ1 (k.map fun x => Ent.d (.str x))) (hl : k.length ≤ 100000) : EvX C (tTupF tr) M δ μ μ1 (.p k) := fun σ H o Q kk => h σ H o _ fun vs H1 o1 x1 r1 => by
  have e : vs = k.map V.str := by
    have : (k.map fun x => Ent.d (.str x)) = (k.map PyData.str).map Ent.d := by rw [List.map_map]; rfl
    rw [this] at r1
    exact DpAll.strs (dpAll_of r1)
  subst e
  refine ⟨by rw [List.length_map]; exact sz_of hl, fun p ob po hp => ?_⟩
  obtain ⟨o', x', d'⟩ := ok_frzT (k := k) o1 hp po
  exact kk _ _ o' (x1.trans x') d'
theorem x_slPc {k : List Str} {tl th : TO} {lo hi : Option Int} (h : EvX C te M δ μ μ1 (.d (.tuple (k.map .str)))) (hl : EvO C tl M δ μ1 μ2 lo) (hh : EvO C th M δ μ2 μ' hi) (hw : ¬ (HT.sIx k.length 0 lo = 0 ∧ HT.sIx k.length k.length hi = k.length)) : EvX C (tSl (rSlF C.K) te tl th) M δ μ μ' (.p (cutK k lo hi)) := fun σ H o Q kk =>
  h σ H o _ fun v H1 o1 x1 r1 => hl σ H1 o1 _ fun H2 o2 x2 => hh σ H2 o2 _ fun H3 o3 x3 => by
    obtain ⟨a, vs, e1, e2, e3⟩ := Dp.tup_of r1
    have e := DpAll.strs e3
    subst e
    refine ⟨a, k.map V.str, e1, ex_t hide_le (ex_t (x2.trans x3) e2), fun z => absurd (by rw [List.length_map] at z; exact z) hw, fun _ p ob po hp => ?_⟩
    rw [cutK_v]
    obtain ⟨o', x', d'⟩ := ok_frzT (k := cutK k lo hi) o3 hp po
    exact kk _ _ o' (((x1.trans x2).trans x3).trans x') d'
end
section
variable {X : Cx}
theorem countU {z : Str} : ∀ {ys : List Str} {its : List Value}, Vals (ys.map V.str) its → its.countP (eqU (.str z)) = ys.countP (· == z)
  | [], _, .nil => rfl
  | y :: ys, _, .cons (b := u) (l₂ := us) h t => by
    obtain ⟨t', e⟩ := (show ∃ t', u = Value.str y t' from h)
    have e1 : eqU (.str z) u = (y == z) := by rw [e]; rfl
    rw [List.countP_cons, List.countP_cons, e1, countU t]
theorem mt_tcount : MtR X "tuple.count" (rTCount X.K) := by
  intro pins s σ H x xs v us Q I rx rs h
  obtain ⟨p, ys, z, rfl, rfl, hq, q⟩ := h
  cases rx
  obtain ⟨u, rfl, t, rfl⟩ := vals1 rs
  obtain ⟨its, r, pl, hz⟩ := I.tuple hq
  obtain ⟨⟨cls, dd, dt, sl⟩, ho, hc, n, hd⟩ := pl
  simp only at hc hd
  subst hc
  subst hd
  refine call_meets PySem.F.slot_tuple_count ⟨_, ho, rfl⟩ PySem.F.entry_tuple_count (PySem.F.args_tuple_count_2 _ _) (PySem.SeqAt.tuple_countAt p its.toArray n dd sl (.str z t) (eqU (.str z)))
    ⟨ho, fun w hw => mem_eqAt (x := .str z) ⟨t, rfl⟩ rfl r (flat_strs ys) w (by simpa using hw), ⟨.int (ys.countP (· == z) : Nat), H, I.tok _, ⟨s.toks, ?_⟩, q⟩⟩
  rw [← countU r]
/-- name = {..} on one line, the name a local -/
theorem ps_setDc {i : Nat} {y : Str} {py : Pos} {kx vx tg iter : Expr} {ifs : List Expr} {scope : Scope} {own : List (Str × Nat)} {pos spos : Pos} {wi : TI} {g : TG} {tt : TT} {tk tv : TE} (hc : X.calm = true) (hN : X.N.Nodup) (hy : X.N[i]? = some y) (hyl : X.env.scope.names.lookup y = some .local)
    (hsw : swapsWith (.DictComp kx vx [⟨tg, iter, ifs, 0⟩] scope pos) (some (.Name y py)) spos.line X.env = pure true) (hi : PI X tg iter wi) (ok : BlkOk X.N X.env.scope scope own)
    (hg : ∀ (s : Shared) (H : Hp) (C : Addr) (cl : List (Str × Addr)) (fp : List Addr), PG (X.blk s H scope (compEnvC scope cl C X.env) fp) tg g) (ht : ∀ (s : Shared) (H : Hp) (C : Addr) (cl : List (Str × Addr)) (fp : List Addr), PTs (X.blk s H scope (compEnvC scope cl C X.env) fp) ifs tt)
    (hk : ∀ (s : Shared) (H : Hp) (C : Addr) (cl : List (Str × Addr)) (fp : List Addr), PE (X.blk s H scope (compEnvC scope cl C X.env) fp) kx tk)
    (he : ∀ (s : Shared) (H : Hp) (C : Addr) (cl : List (Str × Addr)) (fp : List Addr), PE (X.blk s H scope (compEnvC scope cl C X.env) fp) vx tv) (hs : ∀ x, foldedSetIterable iter X.env x = pure x := by intro _; rfl) :
    PS X (.Assign [.Name y py] (.DictComp kx vx [⟨tg, iter, ifs, 0⟩] scope pos) spos) (tAsg (tDc wi g tt tk tv (own.map (·.2))) (gName i)) := by
  refine ⟨fun pins s σ H D I h => ?_⟩
  rw [exec_Assign_Name_used _ _ _ _ hsw]
  refine wpAny_bind (wpAny_standAt (wpAny_bind ?_))
  show wpAny _ X.A (do let _ ← comprehension (.DictComp kx vx [⟨tg, iter, ifs, 0⟩] scope pos) scope X.env (firstIterPos [⟨tg, iter, ifs, 0⟩] pos) newDict false (eval iter X.env) (some (assign (.Name y py) X.env))) _ _ s
  have h : tDc wi g tt tk tv (own.map (·.2)) σ H (fun x H1 => gName i x σ H1 D.nx) := h
  refine wpAny_bind (thn (dc_core (Qf := fun _ s' => SP X pins D .next s') hc hN I hi ok hg ht hk he hs h fun L C s' m H' I' q hn f => ?_) fun _ s' hq => wpAny_pure (wpAny_pure hq))
  show wpAny _ _ (assign (.Name y py) X.env (.ref L)) _ _ _
  refine wpAny_assign_Name (store_ok2 (v := V.ref L) I' hN hy (.inl hyl) rfl (fun s2 I2 ⟨a, sb, ha⟩ => ?_) (.inr hyl))
  obtain ⟨f0, f1, f2, f3, f4, f5⟩ := f
  have haC : C ≠ a := by
    rcases ha with z | z
    · rw [z]; exact f1
    · exact fun e => f4 y a z e.symm
  refine ⟨m, hn.sameBut sb haC, fun h3 sb3 => ?_⟩
  exact ⟨_, H', I2.turned (t' := s2.toks) (fun b o hb e => (sb3.2 b hb).trans e) f0 f1 f3 f4 f5, q⟩
theorem sw_trueD {kx vx : Expr} {gs : List Comprehension} {scope : Scope} {pos py : Pos} {y : Str} {l : Nat} {env : Env} (hk : env.scope.kind = .function) (hy : env.scope.names.lookup y = some .local) (hl : (py.line == pos.line) = true)
    (ha : (scope.names.any fun (n, k) => n == y && (k == .local || k == .cell)) = false) : swapsWith (.DictComp kx vx gs scope pos) (some (.Name y py)) l env = pure true := by
  have ky : env.kindOf y = some .local := hy
  have hb : env.blockKind = .function := by unfold Env.blockKind; rw [hk]; rfl
  unfold swapsWith
  simp only [hb, ky, ha, Expr.pos, hl]
  rfl
theorem pe_tupF {es : List Expr} {t : TA} {pos : Pos} {x1} (h : PA X es t) : PE X (.Tuple es x1 pos) (tTupF t) := by
  refine ⟨fun pins s σ H Q I hq => ?_⟩
  refine wpAny_Tuple_spliced (thn (h.run pos pins s σ H _ I hq) fun us s1 ⟨xs, H1, I1, r, z, q⟩ => ⟨by rw [← r.length]; exact z, ?_⟩)
  have hf : H1 s1.heap.objs.size = none := I1.hok.fresh (Nat.le_refl _)
  refine ⟨.ref s1.heap.objs.size, _, I1.laid (t' := s1.toks) (o := .frz { cls := .type "tuple", data := .seq us.toArray } (.tup xs)) (fun b u e => Heap.get?_push_of_some _ e) (Nat.le_refl _) ?_, rfl, q _ _ ⟨rfl, rfl⟩ hf⟩
  exact ⟨Heap.get?_push_size _ rfl, z, us, r, IsTup.new _ _⟩
end
end FD
/-! sorted(xs), xs a list of data of one kind -/
namespace FD
open PySem PySem.Spec L2 Evl PyProof.Rows PySem.W
def rSortedDat (K : PySem.W.Frag) : List V → Hp → VK → Prop := fun xs H Q => ∃ (a : Addr) (qs : List (V × PyData)), xs = [.ref a] ∧ SqL K H a (qs.map (·.1)) ∧ (∀ q ∈ qs, Dp K H q.1 q.2) ∧ AllAlike (qs.map (·.2)) ∧ Sortable (qs.map (·.2)) ∧ (∀ q ∈ qs, q.2.depth ≤ 8) ∧
  ∀ p, H p = none → Q (.ref p) (upd H p (.lst ((qs.mergeSort (dataLe false (·.2))).map (·.1))))
section
variable {X : Cx}
theorem each_val : ∀ {qs : List (V × PyData)} {its : List Value}, Vals (qs.map (·.1)) its → EachIs (fun u (q : V × PyData) => RelV q.1 u) its qs
  | [], _, .nil => .nil
  | q :: qs, _, .cons h t => .cons h (each_val t)
theorem val_each : ∀ {qs : List (V × PyData)} {out : List Value}, EachIs (fun u (q : V × PyData) => RelV q.1 u) out qs → Vals (qs.map (·.1)) out
  | _, _, .nil => .nil
  | _, _, .cons h t => .cons h (val_each t)
theorem each_in {α β : Type} {R : α → β → Prop} {S : α → β → Prop} : ∀ {as : List α} {bs : List β}, EachIs R as bs → (∀ a b, b ∈ bs → R a b → S a b) → EachIs S as bs
  | _, _, .nil, _ => .nil
  | _, _, .cons h t, f => .cons (f _ _ List.mem_cons_self h) (each_in t fun a b hb => f a b (List.mem_cons_of_mem _ hb))
theorem cr_sortedDat (hu : X.A.units + 64 < cLine) : CallR X (.builtin "sorted") (rSortedDat X.K) := by
  intro pins s σ H vs us Q I r h
  obtain ⟨a, qs, rfl, hs, hd, hal, hso, hdp, q⟩ := h
  obtain ⟨its, rv, hl, hz⟩ := I.list hs
  obtain ⟨u, rfl, ru⟩ := vals1 r
  obtain rfl : u = Value.ref a := ru
  have el : qs.length = its.length := by rw [← rv.length, List.length_map]
  have e := each_val rv
  refine sorted_data (s := s) (vs := its) (bs := qs) (enc := (·.2)) (R := fun u (q : V × PyData) => RelV q.1 u) hl.isList e (each_in e fun v q hq h => Dp.reads I _ _ _ (hd q hq) h) hal hso (by rw [List.length_map] at hz; exact hz) (fun d hm => by have := hdp d hm; omega) fun out ho eo => ?_
  have h1 := val_each eo
  obtain ⟨n, hat⟩ := sortedAll_at s.heap its out.toArray
  have fr : H (s.heap.objs.size + 1) = none := I.hok.fresh (Nat.le_succ _)
  refine ⟨.ref (s.heap.objs.size + 1), upd H (s.heap.objs.size + 1) (.lst ((qs.mergeSort (dataLe false (·.2))).map (·.1))), I.laid (t' := s.toks) (fun b o z => sortedAll_old z) (Nat.le_succ _) ⟨?_, out, n, h1, hat⟩, rfl, q _ fr⟩
  rw [List.length_map, List.length_mergeSort]
  rw [List.length_map] at hz
  exact hz
end
theorem sort_snd (qs : List (V × PyData)) : (qs.mergeSort (dataLe false (·.2))).map (·.2) = (qs.map (·.2)).mergeSort (dataLe false id) :=
  sort_maps (r := dataLe false fun x : V × PyData => x.2) (s := dataLe false id) (fun x : V × PyData => x.2) fun a _ b _ => rfl
theorem dpAll_zip {K : PySem.W.Frag} {H : Hp} : ∀ {ws : List V} {ds : List PyData}, DpAll K H ws ds → ∃ qs : List (V × PyData), ws = qs.map (·.1) ∧ ds = qs.map (·.2) ∧ ∀ q ∈ qs, Dp K H q.1 q.2
  | _, _, .nil => ⟨[], rfl, rfl, fun q hq => nomatch hq⟩
  | _, _, .cons (v := v) (d := d) h t => by
    obtain ⟨qs, e1, e2, e3⟩ := dpAll_zip t
    refine ⟨(v, d) :: qs, by rw [e1]; rfl, by rw [e2]; rfl, fun q hq => ?_⟩
    rcases List.mem_cons.mp hq with z | z
    · rw [z]; exact h
    · exact e3 q z
theorem dpAll_pairs {K : PySem.W.Frag} {H : Hp} : ∀ {qs : List (V × PyData)}, (∀ q ∈ qs, Dp K H q.1 q.2) → DpAll K H (qs.map (·.1)) (qs.map (·.2))
  | [], _ => .nil
  | q :: qs, h => .cons (h q List.mem_cons_self) (dpAll_pairs fun r hr => h r (List.mem_cons_of_mem _ hr))
section
variable {C : Cfg} {M : List Addr} {δ : List Ent} {μ : Mem} {e : Ent}
theorem c_sortedDat {ds : List PyData} (r : Rdd μ e (.list ds)) (hal : AllAlike ds) (hso : Sortable ds) (hdp : ∀ d ∈ ds, d.depth ≤ 8) : CallX C (rSortedDat C.K) M δ μ μ [e] (.d (.list (ds.mergeSort (dataLe false id)))) := fun σ H vs o h Q kk => by
  obtain ⟨v, rfl, q⟩ := p1 h
  obtain ⟨a, ws, q1, q2, q3⟩ := r.lst o q
  obtain ⟨qs, rfl, rfl, q4⟩ := dpAll_zip q3
  refine ⟨a, qs, by rw [q1], q2, fun q hq => dp_mono hide_le _ _ (q4 q hq), hal, hso, fun q hq => hdp _ (List.mem_map.mpr ⟨q, hq, rfl⟩), fun p hn => ?_⟩
  have es := sort_snd qs
  obtain ⟨o', x', d'⟩ := o.lst hn (dpAll_pairs (qs := qs.mergeSort (dataLe false (·.2))) fun q hq => q4 q ((List.mergeSort_perm _ _).mem_iff.mp hq))
  rw [es] at d'
  exact kk _ _ o' x' d'
end
/-! ### rows by their length, then as tuples -/
def keyD (r : List Str) : PyData := .tuple [.int (r.length : Int), rowD r]
def Kle (a b : List Str) : Prop := a.length < b.length ∨ (a.length = b.length ∧ leR a b = true)
theorem key_le {a b : List Str} (h : Kle a b) : dataLe false id (keyD a) (keyD b) = true := by
  rw [dataLe_eq]
  simp only [cond_false, id]
  unfold keyD
  rw [dataLt_pair (by simp [alike]) (alike_rows b a)]
  rcases h with h | ⟨h1, h2⟩
  · have e1 : PyData.eqv (.int (b.length : Int)) (.int (a.length : Int)) = false := by
      rw [eqv_int]; exact beq_eq_false_iff_ne.mpr (by omega)
    rw [e1, dataLt_int]
    simp; omega
  · have e1 : PyData.eqv (.int (b.length : Int)) (.int (a.length : Int)) = true := by
      rw [eqv_int, h1]; exact beq_self_eq_true _
    rw [e1]
    unfold leR at h2
    rw [dataLe_eq] at h2
    simp only [cond_false] at h2
    simp only [if_true]
    split
    · rfl
    · exact h2
theorem key_alike (a b : List Str) : alike (keyD a) (keyD b) = true := by
  unfold keyD
  have := alike_rows a b
  simp [alike, alikeAll, this]
theorem two_no {α : Type} {a b : α} : ∀ {L : List α}, L.Nodup → [a, b].Sublist L → [b, a].Sublist L → False
  | [], _, h, _ => by cases h
  | x :: t, nd, h1, h2 => by
    obtain ⟨hx, nt⟩ := List.nodup_cons.mp nd
    cases h1 with
    | cons _ h1 =>
      cases h2 with
      | cons _ h2 => exact two_no nt h1 h2
      | cons_cons _ h2 => exact hx (h1.subset (by simp))
    | cons_cons _ h1 =>
      cases h2 with
      | cons _ h2 => exact hx (h2.subset (by simp))
      | cons_cons _ h2 => exact hx (h1.subset (by simp))
theorem two_or {α : Type} {a b : α} (ne : a ≠ b) : ∀ {L : List α}, a ∈ L → b ∈ L → [a, b].Sublist L ∨ [b, a].Sublist L
  | x :: t, h1, h2 => by
    rcases List.mem_cons.mp h1 with e1 | h1
    · rcases List.mem_cons.mp h2 with e2 | h2
      · exact absurd (e1.trans e2.symm) ne
      · left; rw [e1]; exact (List.singleton_sublist.mpr h2).cons_cons x
    · rcases List.mem_cons.mp h2 with e2 | h2
      · right; rw [e2]; exact (List.singleton_sublist.mpr h1).cons_cons x
      · rcases two_or ne h1 h2 with q | q
        · exact .inl (q.cons x)
        · exact .inr (q.cons x)
theorem ordT_kle (l : List (List Str)) : (ordT l).Pairwise Kle := by
  refine List.pairwise_iff_forall_sublist.mpr fun {a b} h => ?_
  have nd := ordT_nodup l
  have hlen : a.length ≤ b.length := by
    have hp := List.pairwise_mergeSort (le := fun a b : List Str => decide ((a.length : Int) ≤ (b.length : Int))) (fun a b c h k => by
      have h := of_decide_eq_true h
      have k := of_decide_eq_true k
      exact decide_eq_true (by omega)) (fun a b => by
      rw [Bool.or_eq_true, decide_eq_true_iff, decide_eq_true_iff]; omega) (ordS l)
    have := (List.pairwise_iff_forall_sublist.mp hp) h
    have := of_decide_eq_true this
    omega
  by_cases e : a.length = b.length
  · refine .inr ⟨e, ?_⟩
    have ne : a ≠ b := fun z => by
      subst z
      exact two_no nd h h
    have ha : a ∈ ordS l := (List.mergeSort_perm _ _).mem_iff.mp (h.subset (by simp))
    have hb : b ∈ ordS l := (List.mergeSort_perm _ _).mem_iff.mp (h.subset (by simp))
    rcases two_or ne ha hb with q | q
    · exact (List.pairwise_iff_forall_sublist.mp (ordS_asc l)) q
    · exfalso
      refine two_no nd h (List.pair_sublist_mergeSort (le := fun a b : List Str => decide ((a.length : Int) ≤ (b.length : Int))) (fun a b c h k => by
        have h := of_decide_eq_true h
        have k := of_decide_eq_true k
        exact decide_eq_true (by omega)) (fun a b => by
        rw [Bool.or_eq_true, decide_eq_true_iff, decide_eq_true_iff]; omega) (decide_eq_true (by omega)) q)
  · exact .inl (by omega)
theorem keys_sorted {l : List (List Str)} (h : l.Pairwise Kle) : (l.map keyD).mergeSort (dataLe false id) = l.map keyD :=
  List.mergeSort_of_pairwise (List.pairwise_map.mpr (h.imp fun q => key_le q))
end FD
/-! sum(t), t a tuple of ints -/
namespace L2
open PySem PySem.Spec PyProof.Rows
section
variable {prog : Program} {w : World} {A : Around} {E : Value → Shared → Prop} {s : Shared} {l : Addr} {its : List Value} {ns : List Int} {Q : Value → Shared → Prop}
theorem sum_rawT (hh : A.handled = none) (hl : s.heap.IsTuple l its.toArray) (hi : IntsAre its ns)
    (h : ∀ h' tk t', (∀ b o, s.heap.get? b = some o → h'.get? b = some o) → Q (.int ns.sum t') { s with heap := h', toks := tk }) : wpAny (model prog w) A (call (.builtin "sum") [.ref l]) Q E s := by
  obtain ⟨xs, e⟩ := hi.allInts.items
  have hn : numsOf (intItems xs).toList = ns := by rw [← e]; exact hi.numsOf
  rw [nums_intItems] at hn
  rw [e] at hl
  have hlt : l < s.heap.objs.size := by obtain ⟨_, q, _⟩ := hl; exact Heap.lt_size q
  refine call_sum_walkG (wpAny_pyIter_tuple hl ?_)
  refine ⟨_, [_, l], [_], _, _, _, numAt xs, rfl, Walks.tuple (A := A.in1) hh _ l (Nat.ne_of_lt hlt) (intItems xs), ⟨⟨_, Heap.get?_push_size _ rfl, rfl, rfl⟩, hl.push _⟩, fun c hc => ?_, (fun _ _ => intItems_at), fun h' tk t' hk => ?_⟩
  · show c < (s.heap.push _).objs.size
    rw [Heap.size_push]
    rcases List.mem_cons.mp hc with rfl | hc
    · exact Nat.lt_succ_self _
    · rw [List.mem_singleton.mp hc]; exact Nat.lt_succ_of_lt hlt
  · have := h h' tk t' fun b o z => hk b o (fun hm => by
      have := Heap.lt_size z
      rw [List.mem_singleton.mp hm] at this
      exact Nat.lt_irrefl _ this) (Heap.get?_push_of_some _ z)
    have e2 : preSum (numAt xs) (intItems xs).size = ns.sum := by
      rw [preSum_eq, List.take_of_length_le (by simp [intItems]), hn]
    rw [e2]; exact this
end
theorem tuple_mul1 (l : Addr) (items : Array Value) (n : Nat) (sl : Array (Option Value)) (dd : Option Addr) (x : Int) (u : Tok) (hx : x = 1) :
    Meets (Builtin.«tuple.__mul__» ⟨[.ref l, .int x u], []⟩) (fun _ R s => s.heap.get? l = some { cls := .type "tuple", dict := dd, data := .seq items n, slots := sl } ∧ R (.ok (.ret (Value.ref l))) s) :=
  .of_wp fun prog w A R s h => by
    obtain ⟨hp, g, d, tk, os⟩ := s
    obtain ⟨hl, h⟩ := h
    have f1 := AutoSeq1.idx_int
    subst hx
    have c0 : (decide ((1 : Int) < -(2 ^ 63)) || decide ((1 : Int) ≥ 2 ^ 63)) = false := by decide
    have c1 : (items.isEmpty || (1 : Int) == 1) = true := by simp
    wp_walk using wpAny_loadPart' hl
    repeat (first
      | (refine wpAny_ite_false (decide_eq_false (by rw [c0]; exact Bool.false_ne_true)) ?_; wp_walk using wpAny_loadPart' hl)
      | (refine wpAny_ite_true (decide_eq_true c1) ?_; wp_walk using wpAny_loadPart' hl))
    exact ⟨_, rfl, h⟩
theorem tuple_mul0 (l : Addr) (items : Array Value) (n : Nat) (sl : Array (Option Value)) (dd : Option Addr) (x : Int) (u : Tok) (hx : x = 0) (he : items.isEmpty = false) :
    Meets (Builtin.«tuple.__mul__» ⟨[.ref l, .int x u], []⟩) (fun _ R s => s.heap.get? l = some { cls := .type "tuple", dict := dd, data := .seq items n, slots := sl } ∧
      R (.ok (.ret (Value.ref s.heap.objs.size))) { s with heap := s.heap.push { cls := Value.type "tuple", data := Data.seq #[] }, toks := s.toks }) :=
  .of_wp fun prog w A R s h => by
    obtain ⟨hp, g, d, tk, os⟩ := s
    obtain ⟨hl, h⟩ := h
    have f1 := AutoSeq1.idx_int
    subst hx
    have c0 : (decide ((0 : Int) < -(2 ^ 63)) || decide ((0 : Int) ≥ 2 ^ 63)) = false := by decide
    have c1 : (items.isEmpty || (0 : Int) == 1) = false := by rw [he]; rfl
    have c2 : (decide ((0 : Int) ≤ 0) || items.isEmpty) = true := by rfl
    wp_walk using wpAny_loadPart' hl
    repeat (first
      | (refine wpAny_ite_false (decide_eq_false (by rw [c0]; exact Bool.false_ne_true)) ?_; wp_walk using wpAny_loadPart' hl)
      | (refine wpAny_ite_false (decide_eq_false (by rw [c1]; exact Bool.false_ne_true)) ?_; wp_walk using wpAny_loadPart' hl)
      | (refine wpAny_ite_true (decide_eq_true c2) ?_; wp_walk using wpAny_loadPart' hl))
    exact ⟨_, rfl, h⟩
section
variable {X : Cx}
def rSumT (K : PySem.W.Frag) : List V → Hp → VK → Prop := fun vs H Q => ∃ (a : Addr) (ns : List Int), vs = [V.ref a] ∧ SqT K H a (ns.map V.int) ∧ Q (.int ns.sum) H
theorem cr_sumT (hc : X.calm = true) : CallR X (.builtin "sum") (rSumT X.K) := by
  intro pins s σ H vs us Q I r h
  obtain ⟨a, ns, rfl, hs, q⟩ := h
  obtain ⟨its, rv, hl, _⟩ := I.tuple hs
  rw [Vals.ref1 r]
  exact sum_rawT (I.ok.hd hc) hl rv.ints fun h' tk t' hk => ⟨.int _, H, I.kept hk, ⟨_, rfl⟩, q⟩
/-- t * 0, t * 1 -/
def rRep01 (K : PySem.W.Frag) : R2 := fun x y H Q => ∃ l k xs, x = .ref l ∧ y = .int k ∧ SqT K H l xs ∧ xs ≠ [] ∧ (k = 0 ∨ k = 1) ∧ (k = 1 → Q (.ref l) H) ∧ (k = 0 → ∀ p, H p = none → Q (.ref p) (upd H p (.tup [])))
theorem op_rep01 : OpR X (binaryOp .Mult) (rRep01 X.K) := by
  intro pins s σ H x y v u Q I rx ry h
  obtain ⟨l, k, xs, rfl, rfl, hT, hne, hk, q1, q0⟩ := h
  cases rx
  obtain ⟨t, rfl⟩ := ry
  obtain ⟨its, r, ⟨⟨cls, dd, data, sl⟩, ho, hc, n, hd⟩, hs⟩ := I.tuple hT
  simp only at hc hd
  subst hc hd
  have hle : its.length = xs.length := r.length.symm
  have hn : its ≠ [] := fun e => hne (by
    rw [e] at hle
    exact List.eq_nil_of_length_eq_zero hle.symm)
  have hi : its.toArray.isEmpty = false := by
    cases its with
    | nil => exact absurd rfl hn
    | cons a b => rfl
  refine wpAny_binaryOp_repeat_ref (T := "tuple") (U := "int") (by decide) ⟨_, ho, rfl⟩ (fun s' => typeIs_int s' k t) noFill_tuple_mul F.fills_int_mul F.slot_int_rmul repeat_tuple F.slot_int_index.lookup
    (call_meets F.slot_int_rmul (typeIs_int s k t) F.entry_int_rmul (F.args_int_rmul_2 _ _) (int_rmul_tuple k t l its.toArray n dd sl)
      ⟨ho, rfl, ⟨_, ho, rfl⟩, ?_⟩)
  rcases hk with hk | hk
  · refine call_meets F.slot_tuple_mul ⟨_, ho, rfl⟩ F.entry_tuple_mul (F.args_tuple_mul_2 _ _) (tuple_mul0 l its.toArray n sl dd k t hk hi) ⟨ho, ?_⟩
    refine ⟨.ref s.heap.objs.size, _, I.laid (t' := s.toks) (o := .tup []) (fun b ob q => Heap.get?_push_of_some _ q) (Nat.le_refl _) ?_, rfl, q0 hk _ (I.hok.fresh (Nat.le_refl _))⟩
    exact ⟨Nat.zero_le _, [], .nil, ⟨_, Heap.get?_push_size _ rfl, rfl, _, rfl⟩⟩
  · exact call_meets F.slot_tuple_mul ⟨_, ho, rfl⟩ F.entry_tuple_mul (F.args_tuple_mul_2 _ _) (tuple_mul1 l its.toArray n sl dd k t hk) ⟨ho, ⟨.ref l, H, I, rfl, q1 hk⟩⟩
end
end L2
namespace FD
open PySem L2 Evl
theorem DpAll.ints {K : PySem.W.Frag} {H : Hp} : ∀ {vs : List V} {ns : List Int}, DpAll K H vs (ns.map PyData.int) → vs = ns.map V.int
  | vs, [], h => by cases h; rfl
  | vs, n :: ns, h => by
    cases h with
    | cons h1 h2 =>
      cases h1
      rw [DpAll.ints h2]
      rfl
theorem c_sumT {C : Cfg} {M : List Addr} {δ : List Ent} {μ : Mem} {ns : List Int} : CallX C (rSumT C.K) M δ μ μ [.d (.tuple (ns.map .int))] (.d (.int ns.sum)) := fun σ H vs o h Q k => by
  obtain ⟨v, rfl, q⟩ := p1 h
  obtain ⟨p, ws, q1, q2, q3⟩ := Dp.tup_of q
  have e := DpAll.ints q3
  subst e
  exact ⟨p, ns, by rw [q1], ex_t hide_le q2, k _ H o (Ex.refl _) (.int _)⟩
theorem o_rep01 {C : Cfg} {M : List Addr} {δ : List Ent} {μ : Mem} {k : List Str} {n : Nat} (hk : k ≠ []) (hn : n = 0 ∨ n = 1) : OpX C (rRep01 C.K) M δ μ μ (.d (.tuple (k.map .str))) (.d (.int (n : Nat))) (.d (.tuple ((if n = 1 then k else []).map .str))) := fun σ H x y o h1 h2 Q kk => by
  obtain ⟨a, vs, e1, e2, e3⟩ := Dp.tup_of h1
  have e := DpAll.strs e3
  subst e
  refine ⟨a, (n : Nat), k.map V.str, e1, Dp.int_of h2, ex_t hide_le e2, fun z => hk (List.map_eq_nil_iff.mp z), by omega, fun z => ?_, fun z p hp => ?_⟩
  · have z : n = 1 := by omega
    rw [if_pos z] at kk
    rw [← e1]
    exact kk x H o (Ex.refl _) h1
  · have z : n ≠ 1 := by omega
    rw [if_neg z] at kk
    obtain ⟨o', x', d'⟩ := o.tup (ds := []) hp .nil
    exact kk _ _ o' x' d'
theorem flatten_one {α : Type} (x : α) : ∀ n : Nat, (List.replicate n [x]).flatten = List.replicate n x
  | 0 => rfl
  | n + 1 => by rw [List.replicate_succ, List.flatten_cons, flatten_one x n, List.replicate_succ]; rfl
theorem o_repT {C : Cfg} {M : List Addr} {δ : List Ent} {μ : Mem} {x : Str} {n : Nat} (h2 : 2 ≤ n) (hn : n ≤ 1000) : OpX C (rRepT C.K) M δ μ μ (.d (.tuple ([x].map .str))) (.d (.int (n : Nat))) (.d (.tuple ((List.replicate n x).map .str))) := fun σ H u v o h1 h2' Q kk => by
  obtain ⟨a, vs, e1, e2, e3⟩ := Dp.tup_of h1
  have e := DpAll.strs e3
  subst e
  refine ⟨a, (n : Nat), [x].map V.str, e1, Dp.int_of h2', ex_t hide_le e2, by simp, by omega, by omega, by simp, fun p hp => ?_⟩
  have e : (List.replicate ((n : Nat) : Int).toNat ([x].map V.str)).flatten = (List.replicate n x).map V.str := by
    rw [Int.toNat_natCast, List.map_replicate]
    exact flatten_one (V.str x) n
  rw [e]
  obtain ⟨o', x', d'⟩ := o.tup hp (dp_strs (K := C.K) (H := hide M H) (List.replicate n x))
  exact kk _ _ o' x' d'
end FD
/-! Expressions whose result is known by a relation only. -/
namespace FD
open PySem L2 Evl
def EvP (C : Cfg) (te : TE) (M : List Addr) (δ : List Ent) (μ : Mem) (R : Ent → Mem → Prop) : Prop := ∀ σ H, Ok C M δ μ σ H → ∀ Q : VK, (∀ v H' e μ', R e μ' → Ok C M δ μ' σ H' → Ex (hide M H) (hide M H') → EntOk C.K (hide M H') e v → Q v H') → te σ H Q
def EvPA (C : Cfg) (ta : TA) (M : List Addr) (δ : List Ent) (μ : Mem) (R : List Ent → Mem → Prop) : Prop := ∀ σ H, Ok C M δ μ σ H → ∀ Q : List V → Hp → Prop, (∀ vs H' es μ', R es μ' → Ok C M δ μ' σ H' → Ex (hide M H) (hide M H') → Paired (EntOk C.K (hide M H')) es vs → Q vs H') → ta σ H Q
def EvPT (C : Cfg) (tt : TT) (M : List Addr) (δ : List Ent) (μ : Mem) (R : Bool → Mem → Prop) : Prop := ∀ σ H, Ok C M δ μ σ H → ∀ Q : Bool → Hp → Prop, (∀ b H' μ', R b μ' → Ok C M δ μ' σ H' → Ex (hide M H) (hide M H') → Q b H') → tt σ H Q
section
variable {C : Cfg} {M : List Addr} {δ δ' : List Ent} {μ μ1 : Mem} {te ta tb : TE} {tr : TA} {t u : TT} {D : Ends} {t1 t2 t3 : TS} {n : Nat} {E : XK} {e : Ent} {es : List Ent} {b : Bool} {g : TG}
theorem xp_of {R : Ent → Mem → Prop} (h : EvX C te M δ μ μ1 e) (hR : R e μ1) : EvP C te M δ μ R := fun σ H o Q k => h σ H o Q fun v H' o' x' r' => k v H' e μ1 hR o' x' r'
theorem ap_of {R : List Ent → Mem → Prop} (h : EvA C tr M δ μ μ1 es) (hR : R es μ1) : EvPA C tr M δ μ R := fun σ H o Q k => h σ H o Q fun v H' o' x' r' => k v H' es μ1 hR o' x' r'
theorem tp_of {R : Bool → Mem → Prop} (h : EvT C t M δ μ μ1 b) (hR : R b μ1) : EvPT C t M δ μ R := fun σ H o Q k => h σ H o Q fun H' o' x' => k b H' μ1 hR o' x'
theorem xp_imp {R S : Ent → Mem → Prop} (h : EvP C te M δ μ R) (hR : ∀ e μ', R e μ' → S e μ') : EvP C te M δ μ S := fun σ H o Q k => h σ H o Q fun v H' e μ' q o' x' r' => k v H' e μ' (hR e μ' q) o' x' r'
theorem ap_nil {R : List Ent → Mem → Prop} (hR : R [] μ) : EvPA C tNil M δ μ R := ap_of a_nil hR
theorem ap_cons {R : List Ent → Mem → Prop} (h : EvP C te M δ μ fun e μ1 => EvPA C tr M δ μ1 fun es μ2 => R (e :: es) μ2) : EvPA C (tCons te tr) M δ μ R := fun σ H o Q k =>
  h σ H o _ fun v H1 e μ1 hr o1 x1 r1 => hr σ H1 o1 _ fun vs H2 es μ2 hR o2 x2 r2 => k (v :: vs) H2 (e :: es) μ2 hR o2 (x1.trans x2) (.cons (r1.mono x2) r2)
theorem xp_op {r : R2} {R : Ent → Mem → Prop} (h : EvP C ta M δ μ fun e1 μ1 => EvP C tb M δ μ1 fun e2 μ2 => ∃ e3 μ3, OpX C r M δ μ2 μ3 e1 e2 e3 ∧ R e3 μ3) : EvP C (tOp r ta tb) M δ μ R := fun σ H o Q k =>
  h σ H o _ fun x H1 e1 μ1 h1 o1 x1 r1 => h1 σ H1 o1 _ fun y H2 e2 μ2 ⟨e3, μ3, hr, hR⟩ o2 x2 r2 => hr σ H2 x y o2 (r1.mono x2) r2 Q fun v H3 o3 x3 r3 => k v H3 e3 μ3 hR o3 ((x1.trans x2).trans x3) r3
theorem xp_cb {r : List V → Hp → VK → Prop} {R : Ent → Mem → Prop} (h : EvPA C tr M δ μ fun es μ1 => ∃ e μ2, CallX C r M δ μ1 μ2 es e ∧ R e μ2) : EvP C (tCB r tr) M δ μ R := fun σ H o Q k =>
  h σ H o _ fun vs H1 es μ1 ⟨e, μ2, hr, hR⟩ o1 x1 r1 => hr σ H1 vs o1 r1 Q fun v H2 o2 x2 r2 => k v H2 e μ2 hR o2 (x1.trans x2) r2
/-- a call by a promise spR -/
theorem xp_callR {R : Ent → Mem → Prop} {Rf : List PyData → PyData → Prop} (h : EvPA C tr M δ μ fun es μ1 => ∃ ds d, es = ds.map Ent.d ∧ ds.length = n ∧ Rf ds d ∧ R (.d d) μ1) : EvP C (tCall (spR C.K n Rf) [] E tr) M δ μ R := fun σ H o Q k => h σ H o _ fun vs H1 es μ1 ⟨ds, d, he, hn, hR, hk⟩ o1 x1 r1 => by
  rw [List.append_nil]
  subst he
  have dp := dpAll_of r1
  exact ⟨by rw [dp.length]; exact hn, M, ds, d, o1.alloc, dp, hR, fun v H' e r => k v H' (.d d) μ1 hk (o1.grow e) (x1.trans (hide_ex e)) r⟩
/-- a call by a promise spX -/
theorem xp_callX {Pre : List Ent → Mem → Prop} {Post : List Ent → Mem → PyData → Mem → Prop} {R : Ent → Mem → Prop}
    (h : EvPA C tr M δ μ fun es μ1 => es.length = n ∧ ∃ μ0, (∀ p ∈ μ0, p ∈ μ1) ∧ ((ad μ1).Nodup → (ad μ0).Nodup) ∧ Pre es μ0 ∧ ((ad μ1).Nodup → ∀ d μ0', Post es μ0 d μ0' → ad μ0' = ad μ0 → ∃ μ2, Swap μ0 μ0' μ1 μ2 ∧ R (.d d) μ2)) :
    EvP C (tCall (spX C.K n Pre Post) [] E tr) M δ μ R := fun σ H o Q k => h σ H o _ fun vs H1 es μ1 ⟨hn, μ0, hsub, nd, hP, kk⟩ o1 x1 r1 => by
  rw [List.append_nil]
  refine ⟨by rw [← paired_len r1]; exact hn, M, es, μ0, o1.alloc, r1, fun p hp => let q := o1.mem p (hsub p hp); ⟨q.1, q.2.2⟩, nd o1.nd, hP, fun v H2 d μ0' hq had e2 m2 d2 => ?_⟩
  obtain ⟨μ2, sw, hR⟩ := kk o1.nd d μ0' hq had
  obtain ⟨o2, x2⟩ := after_E o1 sw e2 m2
  exact k v H2 (.d d) μ2 hR o2 (x1.trans x2) d2
/-- .. of one box and data -/
theorem ad_one {μ0' : Mem} {b : Addr} {mo : MO} (had : ad μ0' = ad [(b, mo)]) : ∃ mo', μ0' = [(b, mo')] := by
  cases μ0' with
  | nil => cases had
  | cons q r =>
    obtain ⟨x, y⟩ := q
    have h1 := (List.cons.inj had).1
    have h2 := (List.cons.inj had).2
    have h1 : x = b := h1
    have h2 : r.map (·.1) = [] := h2
    rw [h1, List.map_eq_nil_iff.mp h2]
    exact ⟨y, rfl⟩
theorem xp_callX1 {Pre : List Ent → Mem → Prop} {Post : List Ent → Mem → PyData → Mem → Prop} {R : Ent → Mem → Prop}
    (h : EvPA C tr M δ μ fun es μ1 => es.length = n ∧ ∃ (j : Nat) (b : Addr) (mo : MO), μ1[j]? = some (b, mo) ∧ Pre es [(b, mo)] ∧ ∀ d mo', Post es [(b, mo)] d [(b, mo')] → R (.d d) (μ1.set j (b, mo'))) :
    EvP C (tCall (spX C.K n Pre Post) [] E tr) M δ μ R := by
  refine xp_callX ?_
  intro σ H o Q k
  refine h σ H o Q ?_
  intro vs H1 es μ1 hh o1 x1 r1
  obtain ⟨hn, j, b, mo, hj, hP, kk⟩ := hh
  refine k vs H1 es μ1 ⟨hn, [(b, mo)], ?_, ?_, hP, ?_⟩ o1 x1 r1
  · intro p hp
    rw [List.mem_singleton.mp hp]
    exact List.mem_of_getElem? hj
  · intro _
    exact List.nodup_cons.mpr ⟨by simp, List.nodup_nil⟩
  · intro ndμ d μ0' hq had
    obtain ⟨mo', rfl⟩ := ad_one had
    exact ⟨_, swap_set hj ndμ, kk d mo' hq⟩
theorem tp_B {R : Bool → Mem → Prop} (h : EvP C te M δ μ fun e μ1 => ∃ b, e = .d (.bool b) ∧ R b μ1) : EvPT C (tB te) M δ μ R := fun σ H o Q k =>
  h σ H o _ fun v H1 e μ1 ⟨b, he, hR⟩ o1 x1 r1 => by
    subst he
    exact ⟨b, Dp.bool_of r1, k b H1 μ1 hR o1 x1⟩
theorem tp_test {R : Bool → Mem → Prop} (h : EvP C te M δ μ fun e μ1 => ∃ b, e = .d (.bool b) ∧ R b μ1) : EvPT C (tTest te) M δ μ R := fun σ H o Q k =>
  h σ H o _ fun v H1 e μ1 ⟨b, he, hR⟩ o1 x1 r1 => by
    subst he
    exact ⟨b, Dp.bool_of r1, k b H1 μ1 hR o1 x1⟩
theorem tp_not {R : Bool → Mem → Prop} (h : EvPT C t M δ μ fun b μ1 => R (!b) μ1) : EvPT C (tNot t) M δ μ R := fun σ H o Q k =>
  h σ H o _ fun b H1 μ1 hR o1 x1 => k (!b) H1 μ1 hR o1 x1
theorem tp_and {R : Bool → Mem → Prop} (h : EvPT C t M δ μ fun b μ1 => if b = true then EvPT C u M δ μ1 R else R false μ1) : EvPT C (tAnd t u) M δ μ R := fun σ H o Q k =>
  h σ H o _ fun b H1 μ1 hR o1 x1 => by
    cases b with
    | true =>
      show (if true = true then _ else _)
      rw [if_pos rfl]
      have hR : EvPT C u M δ μ1 R := hR
      exact hR σ H1 o1 _ fun b H2 μ2 hR o2 x2 => k b H2 μ2 hR o2 (x1.trans x2)
    | false =>
      show (if false = true then _ else _)
      rw [if_neg (by decide)]
      have hR : R false μ1 := hR
      exact k false H1 μ1 hR o1 x1
theorem tp_or {R : Bool → Mem → Prop} (h : EvPT C t M δ μ fun b μ1 => if b = true then R true μ1 else EvPT C u M δ μ1 R) : EvPT C (tOr t u) M δ μ R := fun σ H o Q k =>
  h σ H o _ fun b H1 μ1 hR o1 x1 => by
    cases b with
    | true =>
      show (if true = true then _ else _)
      rw [if_pos rfl]
      have hR : R true μ1 := hR
      exact k true H1 μ1 hR o1 x1
    | false =>
      show (if false = true then _ else _)
      rw [if_neg (by decide)]
      have hR : EvPT C u M δ μ1 R := hR
      exact hR σ H1 o1 _ fun b H2 μ2 hR o2 x2 => k b H2 μ2 hR o2 (x1.trans x2)
theorem r_ifP (h : EvPT C t M δ μ fun b μ1 => if b = true then Run C t1 D M δ μ1 else Run C t2 D M δ μ1) : Run C (tIfS t t1 t2) D M δ μ := fun σ H o =>
  h σ H o _ fun b H1 μ1 hR o1 x1 => by
    cases b with
    | true => show (if true = true then _ else _); rw [if_pos rfl]; exact hR σ H1 o1
    | false => show (if false = true then _ else _); rw [if_neg (by decide)]; exact hR σ H1 o1
theorem q_ifP (h : EvPT C t M δ μ fun b μ1 => if b = true then Run C t1 { D with nx := t3 D } M δ μ1 else Run C t2 { D with nx := t3 D } M δ μ1) : Run C (tSeq (tIfS t t1 t2) t3) D M δ μ := r_ifP (D := { D with nx := t3 D }) h
/-- a test that comes out false; then what follows -/
theorem q_noP (h : EvPT C t M δ μ fun b μ1 => b = false ∧ Run C t3 D M δ μ1) : Run C (tSeq (tIfS t t1 tNext) t3) D M δ μ := q_ifP fun σ H o Q k => h σ H o Q fun b H1 μ1 ⟨hb, r⟩ o1 x1 => k b H1 μ1 (by rw [hb]; exact r_next r) o1 x1
theorem q_asgP' {i : Nat} (h : EvP C te M δ μ fun e μ1 => Run C t2 D M (δ.set i e) μ1) : Run C (tSeq (tAsg te (gName i)) t2) D M δ μ := fun σ H o =>
  h σ H o _ fun v H1 e μ1 hr o1 x1 r1 => hr _ H1 (o1.set i r1)
theorem r_asgP' {i : Nat} (h : EvP C te M δ μ fun e μ1 => Nx C D M (δ.set i e) μ1) : Run C (tAsg te (gName i)) D M δ μ := fun σ H o =>
  h σ H o _ fun v H1 e μ1 hr o1 x1 r1 => hr _ H1 (o1.set i r1)
theorem r_retP' (h : EvP C te M δ μ fun e μ1 => ∃ d, e = .d d ∧ ∃ μ', (∀ p ∈ μ', p ∈ μ1) ∧ FinE C D d μ') : Run C (tRet te) D M δ μ := fun σ H o =>
  h σ H o _ fun v H1 e μ1 ⟨d, he, μ', hs, k⟩ o1 x1 r1 => by
    subst he
    exact k v M H1 o1.gr o1.sub (fun p hp => (o1.mem p (hs p hp)).2.2) r1
end
theorem kbn_rev {K : PySem.W.Frag} {x qual : Str} {st : Stmt} {f : Addr} {fd : FuncData} (F : Fun K x qual st f fd) {ps ks : List Str}
    (h : ∀ (kV doc pm : Value) (an : Option Addr) (cdv ct : Value) (ws : List Value), ws.length = ks.length → bindArgs (PySem.W.fnOf x qual (defArgs st) (defBody st) (defScope st) .none kV doc pm an cdv ct) ⟨[], ks.zip ws⟩ = pure (ps.zip ws.reverse)) : KBn K fd ps 0 ks (fun _ ws => ws.reverse) (fun _ zs => zs.reverse) := by
  obtain ⟨oc, od, kV, doc, pm, an, cdv, ct, osl, rfl, lk, hcd⟩ := F.ex
  refine ⟨fun s us ws _ h0 hl => ?_, fun {vs us zs ws} _ r => r.reverse⟩
  cases us with
  | nil => exact .of_eq (h kV doc pm an cdv ct ws hl)
  | cons u us => cases h0
end FD
/-! Lambdas: their making, and `sorted(.., key=lambda x: (len(x), x))`. -/
namespace FD
open PySem L2 Evl
open PySem.Spec PyProof.Rows PySem.W
/-- a table of code objects, all of the name q -/
def TabQ (Hh H : Hp) (P : Addr) (q : Str) : Prop := ∃ ps : Array Value, H P = some (.tbl ps) ∧ TriplesOk ps.toList ∧ ∀ (pos : Pos) (cv : Value), codeAmong pos ps.toList = some cv → ∃ c, cv = .ref c ∧ Hh c = some (LamX.CodeO c q)
/-- what the making of a lambda leaves of H -/
def LamOut (H H1 : Hp) (P c' : Addr) (q : Str) : Prop := H1 = H ∨ ∃ ps more : Array Value, H P = some (.tbl ps) ∧ H c' = none ∧ H1 = upd (upd H P (.tbl (ps ++ more))) c' (LamX.CodeO c' q) ∧ TriplesOk (ps ++ more).toList ∧ ∀ (pos : Pos) (cv : Value), codeAmong pos (ps ++ more).toList = some cv → codeAmong pos ps.toList = some cv ∨ cv = .ref c'
theorem LamOut.ex {H H1 : Hp} {P c' : Addr} {q : Str} (o : LamOut H H1 P c' q) : Ex (hide [P] H) H1 := fun b u e => by
  obtain ⟨nb, e⟩ := hide_some e
  have nb : b ≠ P := fun z => nb (by rw [z]; simp)
  rcases o with rfl | ⟨ps, more, hP, hc, rfl, _⟩
  · exact e
  · rw [upd_ne (fun z => by rw [z, hc] at e; cases e), upd_ne nb]
    exact e
section
variable {X : Cx} {pins : List (Addr × Obj)} {σ : L2.St} {H : Hp} {s : Shared}
theorem lam_new {c P : Addr} {params : Arguments} {body : Expr} {scope : Scope} {lpos : Pos} {E Q : Value → Shared → Prop} (I : Inv X pins σ H s) (TB : LamX.TabB X.base X.mg c P) (hcode : X.env.code = .ref c) (hT : TabQ H H P (X.env.qual ++ "<lambda>"))
    (hdef : defaultsOf params X.env = ([], [])) (hfree : ∀ y ∈ scope.names, y.2 = .free → ∃ c, X.env.cells.lookup y.1 = some c)
    (h : ∀ (f c' : Addr) (pm ctv : Value) (H1 : Hp) (s1 : Shared), Inv X pins σ H1 s1 → LamOut H H1 P c' (X.env.qual ++ "<lambda>") → s1.heap.get? f = some (PySem.W.kla_obj "<lambda>" (X.env.qual ++ "<lambda>") params body scope (cloFrom X.env.cells scope.names []) pm c' ctv) →
      H1 f = none → f ∉ frs X.stack → H1 c' = some (LamX.CodeO c' (X.env.qual ++ "<lambda>")) → Q (.ref f) s1) :
    wpAny (model X.prog X.w) X.A (eval (.Lambda params body scope lpos) X.env) Q E s := by
  obtain ⟨ps, hP, ht, ha⟩ := hT
  have gP : s.heap.get? P = some { cls := .none, data := .fields ps } := I.hok P _ hP
  have new : ∀ f, s.heap.objs.size ≤ f → f ∉ frs X.stack := fun f hf z => by
    rcases List.mem_cons.mp (I.stkSub _ z) with e | e
    · exact absurd hf (Nat.not_le.mpr (by rw [e]; exact I.lt))
    · exact I.nofs hf e
  refine PySem.W.kla_eval hdef ?_
  cases hc : codeAmong lpos ps.toList with
  | some cv =>
    obtain ⟨c', rfl, hco⟩ := ha lpos cv hc
    refine PySem.W.kla_makeFunctionHit (closure_ok hfree) I.ok.glob (I.mod.glob.keeps I.bk) hcode (TB.code.keeps I.bk) gP ht hc (TB.bm.keeps I.bk) ?_
    intro ctv g tk kp sz
    refine h g.objs.size c' _ ctv H _ (I.kept (t' := tk) fun b o e => Heap.get?_push_of_some _ (kp b o e)) (.inl rfl) (Heap.get?_push_size _ rfl) (I.hok.fresh sz) (new _ sz) hco
  | none =>
    refine PySem.W.kla_makeFunction (closure_ok hfree) I.ok.glob (I.mod.glob.keeps I.bk) hcode (TB.code.keeps I.bk) gP ht hc TB.gP (TB.bm.keeps I.bk) ?_
    intro c' ctv g tk ext ge lt rec tab
    obtain ⟨c2, oc, vs, t, e2, hoc, hd, hv⟩ := rec
    cases e2
    have sz : s.heap.objs.size ≤ g.objs.size := Nat.le_trans ge (Nat.le_of_lt lt)
    have nC : H c' = none := I.hok.fresh ge
    have J := LamX.inv_table (t' := tk) (more := #[rawInt lpos.line, rawInt lpos.col, .ref c']) (h' := g.push (PySem.W.kla_obj "<lambda>" (X.env.qual ++ "<lambda>") params body scope (cloFrom X.env.cells scope.names []) ((X.mg "__name__").getD .none) c' ctv)) I hP
      (fun b o nb e => Heap.get?_push_of_some _ (ext b o nb e)) (Heap.get?_push_of_some _ tab) ge ⟨oc, vs, t, Heap.get?_push_of_some _ hoc, hd, hv⟩
    have el : (ps ++ #[rawInt lpos.line, rawInt lpos.col, .ref c']).toList = ps.toList ++ [rawInt lpos.line, rawInt lpos.col, .ref c'] := by simp
    refine h g.objs.size c' _ ctv _ _ J (.inr ⟨ps, #[rawInt lpos.line, rawInt lpos.col, .ref c'], hP, nC, rfl, by rw [el]; exact PySem.TriplesOk_snoc _ _ _ _ ht, fun pos cv e => ?_⟩) (Heap.get?_push_size _ rfl) ?_ (new _ sz) upd_same
    · rw [el] at e
      exact LamX.among_app _ ht e
    · have lP : P < g.objs.size := Nat.lt_of_lt_of_le (Heap.lt_size gP) sz
      rw [upd_ne (Nat.ne_of_gt lt), upd_ne (Nat.ne_of_gt lP)]
      exact I.hok.fresh sz
end
/-! ### sorted(.., key=lambda x: (len(x), x)) -/
def kOrd (l : List (List Str)) : List (List Str) := l.mergeSort (dataLe false keyD)
def tSortLam (K : PySem.W.Frag) (P : Addr) (q : Str) (te : TE) : TE := fun σ H Q => te σ H fun x H1 => ∃ (a : Addr) (ys : List (V × List Str)), x = .ref a ∧ SqL K (hide [P] H1) a (ys.map (·.1)) ∧ (∀ y ∈ ys, ∃ t, y.1 = .ref t ∧ SqT K (hide [P] H1) t (y.2.map V.str)) ∧ TabQ H1 H1 P q ∧
  ∀ c' H2, LamOut H1 H2 P c' q → H2 c' = some (LamX.CodeO c' q) → ∀ p, H2 p = none → Q (.ref p) (upd H2 p (.lst ((ys.mergeSort (dataLe false fun y => keyD y.2)).map (·.1))))
def lam1 (x : Str) (ap : Pos) : Arguments := { posonlyargs := [], args := [{ arg := x, annotation := none, pos := ap }], vararg := none, kwonlyargs := [], kw_defaults := [], kwarg := none, defaults := [] }
def lamS (x : Str) : Scope := { kind := .function, names := [(x, .local), ("len", .globalImplicit)], isGenerator := false, isCoroutine := false, more := [] }
def fstV (vs : List (Value × List Str)) : List Value := vs.map (·.1)
theorem fstV_each : ∀ vs : List (Value × List Str), EachIs (fun v (b : Value × List Str) => v = b.1) (fstV vs) vs
  | [] => .nil
  | _ :: vs => .cons rfl (fstV_each vs)
theorem each_fstV : ∀ {out : List Value} {vs : List (Value × List Str)}, EachIs (fun v (b : Value × List Str) => v = b.1) out vs → out = fstV vs
  | _, _, .nil => rfl
  | _, _, .cons h t => by rw [h, each_fstV t]; rfl
theorem vals_rows : ∀ {ys : List (V × List Str)} {us : List Value}, Vals (ys.map (·.1)) us → ∃ zs : List (Value × List Str), us = fstV zs ∧ Paired (fun (y : V × List Str) (z : Value × List Str) => RelV y.1 z.1 ∧ y.2 = z.2) ys zs
  | [], _, .nil => ⟨[], rfl, .nil⟩
  | y :: ys, _, .cons (b := u) r t => by
    obtain ⟨zs, e, q⟩ := vals_rows t
    exact ⟨(u, y.2) :: zs, by rw [e]; rfl, .cons ⟨r, rfl⟩ q⟩
theorem pair_vals {as : List (V × List Str)} {bs : List (Value × List Str)} (h : ∀ p ∈ as.zip bs, RelV p.1.1 p.2.1) : Vals (((as.zip bs).map (·.1)).map (·.1)) (((as.zip bs).map (·.2)).map (·.1)) := by
  generalize as.zip bs = l at h
  induction l with
  | nil => exact .nil
  | cons p l ih => exact .cons (h p List.mem_cons_self) (ih fun q hq => h q (List.mem_cons_of_mem _ hq))
theorem rows_vals {ys : List (V × List Str)} {zs : List (Value × List Str)} (h : Paired (fun (y : V × List Str) (z : Value × List Str) => RelV y.1 z.1 ∧ y.2 = z.2) ys zs) :
    Vals ((ys.mergeSort (dataLe false fun y => keyD y.2)).map (·.1)) (fstV (zs.mergeSort (dataLe false fun z => keyD z.2))) := by
  obtain ⟨e1, e2, e3⟩ := pair_zip h
  have s1 : ys.mergeSort (dataLe false fun y => keyD y.2) = ((ys.zip zs).mergeSort (dataLe false fun p => keyD p.1.2)).map (·.1) := by
    conv => lhs; rw [e1]
    rw [List.map_mergeSort (r := dataLe false fun p : (V × List Str) × (Value × List Str) => keyD p.1.2)]
    intro a _ b _; rfl
  have s2 : zs.mergeSort (dataLe false fun z => keyD z.2) = ((ys.zip zs).mergeSort (dataLe false fun p => keyD p.1.2)).map (·.2) := by
    conv => lhs; rw [e2]
    rw [List.map_mergeSort (r := dataLe false fun p : (V × List Str) × (Value × List Str) => keyD p.1.2)]
    intro a ha b hb
    have h1 := (e3 a ha).2
    have h2 := (e3 b hb).2
    show dataLe false _ a b = dataLe false _ a.2 b.2
    unfold dataLe sortLe
    dsimp only
    rw [h1, h2]
  rw [s1, s2]
  unfold fstV
  have key : ∀ l : List ((V × List Str) × (Value × List Str)), (∀ p ∈ l, RelV p.1.1 p.2.1) → Vals ((l.map (·.1)).map (·.1)) ((l.map (·.2)).map (·.1)) := by
    intro l
    induction l with
    | nil => intro _; exact .nil
    | cons p l ih => intro h; exact .cons (h p List.mem_cons_self) (ih fun q hq => h q (List.mem_cons_of_mem _ hq))
  exact key _ fun p hp => (e3 p ((List.mergeSort_perm _ _).mem_iff.mp hp)).1
section
variable {X : Cx}
theorem lam_body {x : Str} {f c' L : Addr} {q : Str} {m mg mb : Str → Option Value} {prog : Program} {w : World} {A : Around} {E : Value → Shared → Prop} {s : Shared} {t : Addr} {its : Array Value} {p1 p2 p3 p4 p5 : Pos} {k5 : Nat} {Q : Value → Shared → Prop}
    (hn : s.heap.Ns L m) (hv : m x = some (.ref t)) (hg : s.heap.Ns mainGlobals mg) (hm : mg "len" = none) (hb : s.heap.Ns builtinsNs mb) (hb2 : mb "len" = some (.builtin "len")) (ht : IsTup s.heap t its) (hz : (its.size : Int) < 2 ^ 63) (hx : x ≠ "__debug__" ∧ x ≠ "len")
    (hq : ∀ tk, Q (.ref s.heap.objs.size) { s with heap := s.heap.push { cls := .type "tuple", data := .seq #[.int its.size tk, .ref t] }, toks := s.toks + 1 + 1 }) :
    wpAny (model prog w) A (eval (.Tuple [.Call (.Name "len" p1) [.Name x p2] [] p3, .Name x p4] k5 p5) (PySem.W.envX q (lamS x) L f (.ref c') [])) Q E s := by
  have hd : (x == ("__debug__" : Str)) = false := by simpa using hx.1
  have hk : (PySem.W.envX q (lamS x) L f (.ref c') []).kindOf x = some .local := by
    show (lamS x).names.lookup x = some .local
    simp [lamS, List.lookup]
  refine wpAny_Tuple_spliced (args_cons ?_ rfl)
  have hk2 : (PySem.W.envX q (lamS x) L f (.ref c') []).kindOf "len" = some .globalImplicit := by
    show (lamS x).names.lookup ("len" : Str) = some .globalImplicit
    have e : (("len" : Str) == x) = false := by simpa using fun z : ("len" : Str) = x => hx.2 z.symm
    simp [lamS, List.lookup, e]
  refine Call_ (wpAny_Name (ks_loadName_global rfl hk2 (Calls.loadGlobal_builtin (mg := mg) (mb := mb) hg hm hb hb2 ?_)) (by decide)) rfl
  refine callWith_builtin1 (args_cons (wpAny_Name (wpAny_loadName_local rfl hk hn hv (args_nil ?_)) hd) rfl) rfl rfl
  refine len_tuple ht hz ?_
  refine args_cons (wpAny_Name (wpAny_loadName_local rfl hk hn hv (args_nil ⟨?_, hq _⟩)) hd) rfl
  rw [sizeLine_eq]
  exact (by decide : 2 ≤ 16777216)
theorem pe_sortLam {e : Expr} {te : TE} {x : Str} {c P : Addr} {p lpos pos kpos ap p1 p2 p3 p4 p5 : Pos} {k5 : Nat} {j : Nat} (hr : Room j X.A) (hg : Gl X "sorted") (hm : X.mg "sorted" = none) (hm2 : X.mg "len" = none) (TB : LamX.TabB X.base X.mg c P) (hcode : X.env.code = .ref c) (ha : PA X [e] (tCons te tNil)) (hx : x ≠ "__debug__" ∧ x ≠ "len")
    (hcl : cloFrom X.env.cells (lamS x).names [] = [])
    (hb : ∀ (q : Str) (pm cv ctv v : Value), bindArgs (PySem.W.kla_fn "<lambda>" q (lam1 x ap) (.Tuple [.Call (.Name "len" p1) [.Name x p2] [] p3, .Name x p4] k5 p5) (lamS x) [] pm cv ctv) ⟨[v], []⟩ = pure [(x, v)])
    (ne : backTo pos (starEach [e] X.env) = (false, eval e X.env) :: backTo pos (starEach [] X.env) := by rfl) (hpl : (backTo pos (starEach [e] X.env)).any (·.1) = false := by rfl)
    (hall : (backToKw pos (keywordEach [⟨some "key", .Lambda (lam1 x ap) (.Tuple [.Call (.Name "len" p1) [.Name x p2] [] p3, .Name x p4] k5 p5) (lamS x) lpos, kpos⟩] X.env)).all (·.1.isSome) = true := by rfl)
    (hnone : (backToKw pos (keywordEach [⟨some "key", .Lambda (lam1 x ap) (.Tuple [.Call (.Name "len" p1) [.Name x p2] [] p3, .Name x p4] k5 p5) (lamS x) lpos, kpos⟩] X.env)).any (·.1.isNone) = false := by rfl)
    (hks : (backToKw pos (keywordEach [⟨some "key", .Lambda (lam1 x ap) (.Tuple [.Call (.Name "len" p1) [.Name x p2] [] p3, .Name x p4] k5 p5) (lamS x) lpos, kpos⟩] X.env)).filterMap (·.1) = [Str.ofString "key"] := by rfl)
    (hdf : defaultsOf (lam1 x ap) X.env = ([], []) := by rfl) :
    PE X (.Call (.Name "sorted" p) [e] [⟨some "key", .Lambda (lam1 x ap) (.Tuple [.Call (.Name "len" p1) [.Name x p2] [] p3, .Name x p4] k5 p5) (lamS x) lpos, kpos⟩] pos) (tSortLam X.K P (X.env.qual ++ "<lambda>") te) := by
  refine ⟨fun pins s σ H Q I h => ?_⟩
  refine wpAny_Call_Name_kw (ld_blt I hg hm (show _ = some (.builtin "sorted") by decide +kernel) ?_)
  refine PyProof.Rows.callWith_kw (thn (ha.run pos pins s σ H (fun vs H1 => match vs with
    | [x] => ∃ (a : Addr) (ys : List (V × List Str)), x = .ref a ∧ SqL X.K (hide [P] H1) a (ys.map (·.1)) ∧ (∀ y ∈ ys, ∃ t, y.1 = .ref t ∧ SqT X.K (hide [P] H1) t (y.2.map V.str)) ∧ TabQ H1 H1 P (X.env.qual ++ "<lambda>") ∧
      ∀ c' H2, LamOut H1 H2 P c' (X.env.qual ++ "<lambda>") → H2 c' = some (LamX.CodeO c' (X.env.qual ++ "<lambda>")) → ∀ p, H2 p = none → Q (.ref p) (upd H2 p (.lst ((ys.mergeSort (dataLe false fun y => keyD y.2)).map (·.1))))
    | _ => False) I h) fun us s1 ⟨vs, H1, I1, r1, q0⟩ => ?_) ne hpl hall hnone
  obtain ⟨x0, rfl⟩ : ∃ x, vs = [x] := by
    match vs, q0 with
    | [x], _ => exact ⟨x, rfl⟩
  obtain ⟨a, ys, ex, hs, hy, hT, q⟩ := q0
  subst ex
  cases r1 with
  | cons r rr =>
    cases rr
    cases r
    show wpAny _ _ (evalAll ((do let v ← eval (.Lambda (lam1 x ap) (.Tuple [.Call (.Name "len" p1) [.Name x p2] [] p3, .Name x p4] k5 p5) (lamS x) lpos) X.env; standAt pos; pure v) :: (backToKw pos (keywordEach [] X.env)).map (·.2))) _ _ s1
    refine wpAny_evalAll_cons (wpAny_bind (lam_new I1 TB hcode hT hdf ?_ fun f c' pm ctv H2 s2 I2 out_ hf hfn hfr hco => wpAny_bind (wpAny_standAt (wpAny_pure ?_))))
    · intro y hy e
      simp only [lamS, List.mem_cons, List.not_mem_nil, or_false] at hy
      rcases hy with z | z <;> (rw [z] at e; cases e)
    refine wpAny_evalAll_nil ?_
    rw [hks]
    have x12 := out_.ex
    obtain ⟨its, rv, pl, hz⟩ := I2.list (ex_l x12 hs)
    obtain ⟨zs, e1, pr⟩ := vals_rows rv
    have sz : zs.length = ys.length := (paired_len pr).symm
    have hzl : zs.length ≤ sizeLine := by rw [sz]; rw [List.length_map] at hz; exact hz
    have n63 := line63
    have hun := hr.un
    refine sorted_key_data (s := s2) (vs := its) (bs := zs) (R := fun v (b : Value × List Str) => v = b.1) (b := false) (fun b => keyD b.2) pl.isList (by rw [e1]; exact fstV_each zs) (PySem.W.AllAlike.of fun a b => key_alike _ _) (PySem.W.Sortable.tuples fun a => ⟨_, _, rfl⟩) hzl (fun b _ => ?_)
      (PyProof.Rows.ksk_s1 _ _) (fun _ => PyProof.Rows.ksk_l1 _ _) (fun x => PyProof.Rows.ksk_t1 _ x) (fun v b hv hb' h tk kp => ?_) fun out c h' tk kp fr ho hlo eo => ?_
    · have : (keyD b.2).depth ≤ 8 := by
        unfold keyD
        simp only [PyData.depth, PyData.depthAll, depth_row]
        decide
      omega
    · subst hv
      obtain ⟨y, hym, ry, ly⟩ := pair_mem pr b hb'
      obtain ⟨t, et, ht⟩ := hy y hym
      rw [et] at ry
      have ry : b.1 = Value.ref t := ry
      have ht2 := ex_t x12 ht
      obtain ⟨its2, r2, pt, hz2⟩ := I2.tuple ht2
      have tx := inv_tx I2 ht2
      have l2 := r2.length
      rw [List.length_map] at l2
      rw [← ly, ry]
      rw [hcl] at hf
      obtain ⟨⟨oc, vs, t0, hoc, hdc, hvc⟩, _, _⟩ := I2.hok c' _ hco
      obtain ⟨mb, hb1, hb2⟩ := I2.mod.blt
      refine wpAny_call (codeAny_mono (R := fun r s' => ∃ v, r = .ok (.ret v) ∧ KeyPure (keyD y.2) { s2 with heap := h, toks := tk } v s') ?_ fun r s' ⟨v, er, kp⟩ => by subst er; exact kp)
      refine PySem.W.kla_callFunE (by have := hr.dp; show X.A.depth < _; omega) (kp _ _ hf) rfl rfl rfl rfl ⟨c', oc, vs, t0, rfl, kp _ _ hoc, hdc, hvc⟩ ?_
      rw [hb]
      refine wpAny_pure (wpAny_newFunctionEnv ?_ ?_ (fun h₁ hns hsb => ⟨(I2.nolimit.keeps kp).fresh _ hsb, ?_⟩) rfl)
      · intro y hy
        simp only [lamS, List.mem_cons, List.not_mem_nil, or_false] at hy
        rcases hy with z | z <;> (rw [z]; exact fun e => nomatch e)
      · intro y hy
        rw [List.mem_singleton.mp hy]
        simp [lamS, List.lookup]
      · show codeAny _ _ (.expr _ (PySem.W.envX (X.env.qual ++ "<lambda>") (lamS x) h.objs.size f (.ref c') [])) _ _
        have k1 : ∀ b o, h.get? b = some o → h₁.get? b = some o := fun b o e => hsb.extBut b o (Nat.ne_of_lt (Heap.lt_size e)) (Heap.get?_push_of_some _ e)
        have k2 : ∀ b o, s2.heap.get? b = some o → h₁.get? b = some o := fun b o e => k1 b o (kp b o e)
        have pt2 : IsTup h₁ t its2.toArray := by
          obtain ⟨o, ho, hc, n, hd⟩ := pt
          exact ⟨o, k2 _ _ ho, hc, n, hd⟩
        refine PySem.W.kla_codeExpr (lam_body (mg := X.mg) (mb := mb) (t := t) (its := its2.toArray) hns (by simp [List.lookup]) ((I2.mod.glob.keeps I2.bk).keeps k2) hm2 ((hb1.keeps I2.bk).keeps k2) ((hb2 "len" (by decide)).trans PySem.boot_len) pt2 (by rw [List.size_toArray]; rw [List.length_map] at hz2; omega) hx fun tk2 => ?_)
        refine ⟨_, rfl, _, _, rfl, fun b o e => Heap.get?_push_of_some _ (k1 b o e), ?_⟩
        have e3 : (its2.toArray.size : Int) = ((y.2.length : Nat) : Int) := by rw [List.size_toArray, ← l2]
        unfold keyD
        rw [e3]
        exact .tuple (Heap.get?_push_size _ rfl) rfl rfl (.cons (.int _ _) (.cons (tx_reads (tx_keep tx fun c u e => Heap.get?_push_of_some _ (k2 c u e))) .nil))
    · have e2 := each_fstV eo
      have hv : Vals ((ys.mergeSort (dataLe false fun y => keyD y.2)).map (·.1)) out := by rw [e2]; exact rows_vals pr
      have hn : H2 (s2.heap.objs.size + 1) = none := I2.hok.fresh (Nat.le_succ _)
      have hlen : ((ys.mergeSort (dataLe false fun y => keyD y.2)).map (·.1)).length ≤ sizeLine := by
        rw [List.length_map, List.length_mergeSort, ← sz]; exact hzl
      exact ⟨.ref _, _, I2.laid (t' := tk) (o := .lst _) kp (Nat.le_succ _) ⟨hlen, out, c, hv, ho⟩, rfl, q c' H2 out_ hco _ hn⟩
end
end FD
/-! Tables of code objects in the state; defs whose code object is known. -/
namespace FD
open PySem L2 Evl
open PySem.Spec PyProof.Rows PySem.W
section
variable {C : Cfg} {M : List Addr} {δ : List Ent} {μ μ1 : Mem} {σ : L2.St} {H H2 : Hp} {P c' : Addr} {q : Str}
theorem Ok.tabQ (o : Ok C M δ μ σ H) (hm : (P, .tb q) ∈ μ) : TabQ H H P q := by
  obtain ⟨_, _, ps, e1, e2, e3⟩ := o.mem _ hm
  exact ⟨ps, e1, e2, fun pos cv z => let ⟨c, r1, r2⟩ := e3 pos cv z; ⟨c, r1, hide_le c _ r2⟩⟩
theorem Ok.lam (o : Ok C M δ μ σ H) (hm : (P, .tb q) ∈ μ) (out : LamOut H H2 P c' q) : Ok C M δ μ σ H2 ∧ Ex (hide M H) (hide M H2) := by
  rcases out with rfl | ⟨ps, more, hP, hc, rfl, ht, ha⟩
  · exact ⟨o, Ex.refl _⟩
  obtain ⟨pM, gP, ps', e1, e2, e3⟩ := o.mem _ hm
  have pM : P ∈ M := pM
  have gP : C.G P = none := gP
  have e1 : H P = some (.tbl ps') := e1
  rw [hP] at e1
  cases e1
  have cM : c' ∉ M := o.fresh hc
  have nPc : P ≠ c' := fun z => cM (by rw [← z]; exact pM)
  have at_ : ∀ b, b ≠ P → b ≠ c' → upd (upd H P (.tbl (ps ++ more))) c' (LamX.CodeO c' q) b = H b := fun b h1 h2 => by rw [upd_ne h2, upd_ne h1]
  have x : Ex (hide M H) (hide M (upd (upd H P (.tbl (ps ++ more))) c' (LamX.CodeO c' q))) := fun b u e => by
    obtain ⟨bM, e⟩ := hide_some e
    rw [hide_out bM, at_ b (fun z => bM (by rw [z]; exact pM)) (fun z => by rw [z, hc] at e; cases e)]
    exact e
  refine ⟨⟨o.len, fun i e h1 h2 => let ⟨v, a, b⟩ := o.slot i e h1 h2; ⟨v, a, b.mono x⟩, fun p hp => ?_, o.nd, fun a ha => ?_, o.sub, fun b u e => ?_, o.base.trans x⟩, x⟩
  · obtain ⟨m1, m2, m3⟩ := o.mem p hp
    refine ⟨m1, m2, ?_⟩
    by_cases z : p.1 = P
    · obtain ⟨i, hi⟩ := List.getElem?_of_mem hp
      obtain ⟨j, hj⟩ := List.getElem?_of_mem hm
      obtain ⟨p1, p2⟩ := p
      have z : p1 = P := z
      subst z
      have := nodup_fst o.nd hi hj
      subst this
      rw [hi] at hj
      have e4 : p2 = .tb q := congrArg Prod.snd (Option.some.inj hj)
      subst e4
      refine ⟨ps ++ more, by rw [upd_ne nPc, upd_same], ht, fun pos cv e => ?_⟩
      rcases ha pos cv e with e | rfl
      · obtain ⟨c, r1, r2⟩ := e3 pos cv e
        exact ⟨c, r1, x c _ r2⟩
      · exact ⟨c', rfl, by rw [hide_out cM, upd_same]⟩
    · exact m3.mono x fun u e => by rw [at_ p.1 z (fun w => cM (by rw [← w]; exact m1))]; exact e
  · by_cases z : a = P
    · rw [z, upd_ne nPc, upd_same]; exact fun w => nomatch w
    · rw [at_ a z (fun w => cM (by rw [← w]; exact ha))]; exact o.alloc a ha
  · have e' := o.gr b u e
    rw [at_ b (fun z => by rw [z, gP] at e; cases e) (fun z => by rw [z, hc] at e'; cases e')]
    exact e'
theorem sql_hide {K : PySem.W.Frag} {ps : Array Value} {a : Addr} {xs : List V} (hP : H P = some (.tbl ps)) (h : SqL K H a xs) : SqL K (hide [P] H) a xs := by
  rcases h with h | h
  · by_cases z : a = P
    · subst z
      exfalso
      rcases h with e | ⟨o, e⟩ <;> (rw [hP] at e; cases e)
    · have e : hide [P] H a = H a := hide_out (by simpa using z)
      refine .inl ?_
      rcases h with h | ⟨o, h⟩
      · exact .inl (e.trans h)
      · exact .inr ⟨o, e.trans h⟩
  · exact .inr h
theorem x_sortLam {ta : TE} {e : Ent} {rs : List (List Str)} (h : EvX C ta M δ μ μ1 e) (r : Rdd μ1 e (.list (rs.map rowD))) (hP : (P, .tb q) ∈ μ1) : EvX C (tSortLam C.K P q ta) M δ μ μ1 (.d (.list ((kOrd rs).map rowD))) := fun σ H o Q k =>
  h σ H o _ fun v H1 o1 x1 r1 => by
    obtain ⟨a, vs, e1, e2, e3⟩ := r.lst o1 r1
    obtain ⟨ks, e4, e5, e6⟩ := rows_dp e3
    have hT := o1.tabQ hP
    obtain ⟨ps, tP, _, _⟩ := id hT
    have pM : P ∈ M := (o1.mem _ hP).1
    have x2 : Ex (hide M H1) (hide [P] H1) := hide_sub fun b hb => by rw [List.mem_singleton.mp hb]; exact pM
    refine ⟨a, ks.map fun q => (V.ref q.1, q.2), e1, ?_, ?_, hT, fun c' H2 out hco p hp => ?_⟩
    · have : (ks.map fun q => (V.ref q.1, q.2)).map (·.1) = vs := by rw [e4, List.map_map]; rfl
      rw [this]
      exact sql_hide tP e2
    · intro y hy
      obtain ⟨q, hq, rfl⟩ := List.mem_map.mp hy
      exact ⟨q.1, rfl, ex_t x2 (e6 q hq)⟩
    · obtain ⟨o2, x3⟩ := o1.lam hP out
      have s1 : ((ks.map fun q => (V.ref q.1, q.2)).mergeSort (dataLe false fun y : V × List Str => keyD y.2)).map (·.1) = (ks.mergeSort (dataLe false fun q : Addr × List Str => keyD q.2)).map fun q => V.ref q.1 := by
        rw [← List.map_mergeSort (r := dataLe false fun q : Addr × List Str => keyD q.2), List.map_map]
        · rfl
        · intro a _ b _; rfl
      have s2 : (ks.mergeSort (dataLe false fun q : Addr × List Str => keyD q.2)).map (·.2) = kOrd rs := by
        unfold kOrd
        rw [← e5, List.map_mergeSort (r := dataLe false fun q : Addr × List Str => keyD q.2)]
        intro a _ b _; rfl
      rw [s1]
      have dp : DpAll C.K (hide M H2) ((ks.mergeSort (dataLe false fun q : Addr × List Str => keyD q.2)).map fun q => V.ref q.1) ((kOrd rs).map rowD) := by
        rw [← s2]
        exact dp_rows fun q hq => ex_t x3 (e6 q ((List.mergeSort_perm _ _).mem_iff.mp hq))
      obtain ⟨o3, x4, d3⟩ := o2.lst hp dp
      exact k _ _ o3 ((x1.trans x3).trans x4) d3
end
section
variable {P : Program} {w : World} {K : PySem.W.Frag} {mg : Str → Option Value} {base : Heap}
theorem okC {x qual : Str} {st : Stmt} {f : Addr} {fd : FuncData} {N ps : List Str} {k : Nat} {sp : Sp} (F : Fun K x qual st f fd) (S : FnScope N ps (defScope st)) (len : ∀ vs H Q E, sp vs H Q E → vs.length = ps.length)
    (hbody : ∀ (cdv : Value) (A : Around) (outer : List Env) (s : Shared) (H : Hp) (vs : List V) (Q : VK) (E : XK), cdv = fd.code → Room k (A.deeper (envOfC qual (defScope st) s.heap.objs.size f cdv)) → sp vs H Q E →
      ∃ t, PSs (cxOf CX0 P w K mg base N qual (defScope st) f cdv A outer s H E).nox (defBody st) t ∧ t { nx := fun _ H' => Q .non H', rt := Q } (L2.start N vs) H) : FnOk P w K mg base CX0 (k + 1) f fd ps sp := by
  obtain ⟨oc, od, kV, doc, pm, an, cdv, ct, osl, e, lk, hcd⟩ := F.ex
  subst e
  exact fn_of lk hcd S len fun A outer s H vs Q E hr hs => let ⟨t, h, q⟩ := hbody cdv A outer s H vs Q E rfl hr hs; ⟨t, h.nox, q⟩
/-- def_E where the def's code object is known -/
theorem def_EC {x qual : Str} {st : Stmt} {f : Addr} {fd : FuncData} {N ps : List Str} {k n : Nat} {R : List Ent → Mem → PyData → Mem → Prop} (F : Fun K x qual st f fd) (S : FnScope N ps (defScope st)) (hN : ps.length ≤ N.length) (hp : ps.length = n)
    (h : ∀ (cdv : Value) (A : Around) (outer : List Env) (s : Shared) (H : Hp) (E : XK), cdv = fd.code → Room k (A.deeper (PyProof.Rows.envOfC qual (defScope st) s.heap.objs.size f cdv)) →
      ∃ t, PSs (cxOf CX0 P w K mg base N qual (defScope st) f cdv A outer s H E).nox (defBody st) t ∧
        ∀ (M : List Addr) (G B : Hp) (es : List Ent) (μ : Mem) (d : PyData) (μ' : Mem), R es μ d μ' → ∀ D : Ends, FinE ⟨K, M, G, B⟩ D d μ' → FD.Run ⟨K, M, G, B⟩ t D M (startE N.length es.length es) μ) :
    FnOk P w K mg base CX0 (k + 1) f fd ps (spE K n R) := by
  refine okC F S (fun vs H Q E hs => hs.1.trans hp.symm) fun cdv A outer s H vs Q E hcd hr hs => ?_
  obtain ⟨hn, M, es, μ, d, μ', al, he, hm, nd, had, hR, kk⟩ := hs
  obtain ⟨t, ht, run⟩ := h cdv A outer s H E hcd hr
  exact ⟨t, ht, run M (hide (ad μ) H) (hide M H) es μ d μ' hR _ (fun v M' H' e s m r => kk v H' e (fun p hp => (m p hp).mono (hide_sub s) fun _ q => q) (dp_mono (hide_sub s) _ _ r)) _ _ (ok_startE al he hm nd (by rw [hn, ← hp]; exact hN))⟩
end
/-! ### the order by the key -/
theorem leR_total' (a b : List Str) : leR a b = true ∨ leR b a = true := by
  have := leR_tot.total a b
  simpa using this
theorem kle_total (a b : List Str) : Kle a b ∨ Kle b a := by
  unfold Kle
  rcases Nat.lt_trichotomy a.length b.length with h | h | h
  · exact .inl (.inl h)
  · rcases leR_total' a b with q | q
    · exact .inl (.inr ⟨h, q⟩)
    · exact .inr (.inr ⟨h.symm, q⟩)
  · exact .inr (.inl h)
end FD
/-! Small rules: x[i] += e, [..] + [..] as a list of one's own, signs of a text, chained comparisons, upper, `in` a list of data, `is` a bool. -/
namespace FD
open PySem L2 Evl
open PySem.Spec PyProof.Rows PySem.W
/-! ### x[i] of a list, for x[i] += e -/
def rGetL (K : PySem.W.Frag) : V → V → Hp → VK → Prop := fun o i H Q => ∃ p xs k z, o = .ref p ∧ i = .int k ∧ SqL K H p xs ∧ 0 ≤ k ∧ xs[k.toNat]? = some z ∧ Q z H
theorem get_list {X : Cx} : PGet X (rGetL X.K) := by
  intro pins s σ H o i ov iv Q I ro ri h
  obtain ⟨p, xs, k, z, rfl, rfl, hq, h0, hz, q⟩ := h
  cases ro
  obtain ⟨t, rfl⟩ := ri
  obtain ⟨its, r, pl, sz⟩ := I.list hq
  obtain ⟨w, ew, rw'⟩ := r.get hz
  have hl := r.length
  have hn := line63
  have hk := (List.getElem?_eq_some_iff.mp hz).1
  exact wpAny_getItem_list pl.isList h0 (by omega) (by simpa using ew) ⟨z, H, I, rw', q⟩
theorem rep_one {α : Type} (x : α) : ∀ n : Nat, (List.replicate n [x]).flatten = List.replicate n x
  | 0 => rfl
  | n + 1 => by rw [List.replicate_succ, List.flatten_cons, rep_one x n, List.replicate_succ]; rfl
section
variable {C : Cfg} {M : List Addr} {δ : List Ent} {μ μ1 μ2 μ3 μ4 : Mem} {ta tb te : TE} {D : Ends} {t2 : TS} {a : Addr} {j k : Nat} {ns : List Int} {m n : Int} {i : Nat} {e : Ent}
theorem r_augL {f : Int → Int → Int} (hx : EvX C ta M δ μ μ1 (.m a)) (hi : EvX C tb M δ μ1 μ2 (.d (.int (k : Nat)))) (h2 : μ2[j]? = some (a, .lst (ns.map .int))) (hk : ns[k]? = some m) (he : EvX C te M δ μ2 μ3 (.d (.int n))) (h3 : μ3[j]? = some (a, .lst (ns.map .int)))
    (kk : Nx C D M δ (μ3.set j (a, .lst ((ns.set k (f m n)).map .int)))) : Run C (tAugS ta tb te (rGetL C.K) (ipI f) rSetL) D M δ μ := fun σ H o => hx σ H o _ fun v H1 o1 x1 r1 => by
  have e1 : v = .ref a := r1
  subst e1
  refine hi σ H1 o1 _ fun w H2 o2 x2 r2 => ?_
  obtain ⟨_, _, vs, q1, q2⟩ := o2.mem _ (List.mem_of_getElem? h2)
  have ev := DpAll.ints q2
  subst ev
  have w1 := Dp.int_of r2
  refine ⟨a, _, (k : Nat), .int m, rfl, w1, SqL.of q1, by omega, by rw [Int.toNat_natCast, List.getElem?_map, hk]; rfl, ?_⟩
  refine he σ H2 o2 _ fun u H3 o3 x3 r3 => ?_
  refine ⟨m, n, rfl, Dp.int_of r3, ?_⟩
  obtain ⟨_, _, vs3, q3, q4⟩ := o3.mem _ (List.mem_of_getElem? h3)
  have ev := DpAll.ints q4
  subst ev
  have hl := (List.getElem?_eq_some_iff.mp hk).1
  refine ⟨a, _, (k : Nat), k, rfl, w1, q3, ?_, ?_⟩
  · unfold ixN
    rw [if_pos (by omega), if_pos (by rw [List.length_map]; omega), Int.toNat_natCast]
  · have e4 : (ns.map V.int).set k (V.int (f m n)) = (ns.set k (f m n)).map V.int := by rw [List.map_set]
    rw [e4]
    exact kk σ _ (o3.write h3 ⟨_, upd_same, DpAll.of_ints _⟩)
/-- [z] * n, data -/
theorem x_rep0 {z : Int} {n : Nat} (h : ∀ M' μ', EvX C tb M' δ μ' μ' (.d (.int (n : Int)))) (hn : n ≤ 100000) : EvX C (tOp rRep (tLst (tCons (tC (.int z)) tNil)) tb) M δ μ μ (.d (.list ((List.replicate n z).map .int))) := fun σ H o Q kk => ⟨sz_of (by simp), fun p hp => by
  have o1 : Ok C M δ μ σ (upd H p (.lst [.int z])) := o.grow (Ex.new hp)
  refine h M μ σ _ o1 _ fun v H1 o2 x1 r1 => ?_
  have hpM := o.fresh hp
  have q1 : hide M H1 p = some (.lst [.int z]) := x1 p _ (by rw [hide_out hpM, upd_same])
  refine ⟨p, n, [.int z], rfl, Dp.int_of r1, (hide_some q1).2, by omega, by omega, sz_of (by simp; omega), fun q hq => ?_⟩
  have e2 : (List.replicate ((n : Int)).toNat [V.int z]).flatten = (List.replicate n z).map V.int := by
    rw [Int.toNat_natCast, List.map_replicate]
    exact rep_one _ n
  rw [e2]
  obtain ⟨o3, x3, d3⟩ := o2.lst hq (DpAll.of_ints (K := C.K) (H := hide M H1) (List.replicate n z))
  exact kk _ _ o3 (((hide_ex (Ex.new hp)).trans x1).trans x3) d3⟩
/-- x = list + list, of one's own -/
theorem q_newCat {ds es : List PyData} (ha : EvX C ta M δ μ μ1 (.d (.list ds))) (hb : EvX C tb M δ μ1 μ2 (.d (.list es))) (hz : ds.length + es.length ≤ 100000) (kk : ∀ p, p ∉ M → Run C t2 D (p :: M) (δ.set i (.m p)) ((p, .lst (ds ++ es)) :: μ2)) : Run C (tSeq (tAsg (tOp (rCatL C.K) ta tb) (gName i)) t2) D M δ μ := fun σ H o =>
  ha σ H o _ fun v H1 o1 x1 r1 => hb σ H1 o1 _ fun w H2 o2 x2 r2 => by
    obtain ⟨a, vs, q1, q2, q3⟩ := Dp.lst_of r1
    obtain ⟨b, ws, p1, p2, p3⟩ := Dp.lst_of r2
    have q3' := dpAll_mono x2 _ _ q3
    refine ⟨a, b, vs, ws, q1, p1, ex_l hide_le (ex_l x2 q2), ex_l hide_le p2, by rw [q3.length, p3.length]; exact sz_of hz, fun p hp => ?_⟩
    have pM := o2.fresh hp
    have o3 := o2.new hp (mo := .lst (ds ++ es)) (ho := .lst (vs ++ ws)) ⟨_, upd_same, dpAll_mono (hide_new hp) _ _ (q3'.append p3)⟩
    exact kk p pM _ _ (o3.set i (e := .m p) rfl)
end
/-! ### texts -/
def signs (x : Str) : List PyData := x.cps.toList.map fun c => PyData.str ⟨#[c]⟩
section
variable {C : Cfg} {M : List Addr} {δ : List Ent} {μ μ1 μ2 μ3 : Mem} {ta tb tc te : TE} {D : Ends} {t2 : TS} {e : Ent} {x : Str} {b : Bool} {i j l : Nat} {tr : TA}
theorem w_str {K : PySem.W.Frag} {Hh : Hp} : WalkD K (Its x) Hh (signs x) where
  go := fun M i H hi _ _ => by
    have : i < x.cps.size := by unfold signs at hi; rw [List.length_map, Array.length_toList] at hi; exact hi
    exact this
  stop := fun M H _ _ => by
    show x.cps.size ≤ _
    unfold signs
    rw [List.length_map, Array.length_toList]
    exact Nat.le_refl _
  yld := fun M i H v H' hi al ex h => by
    obtain ⟨rfl, c, hc, rfl⟩ := h
    refine ⟨Ex.refl _, .str ⟨#[c]⟩, ?_, .str _⟩
    unfold signs
    rw [List.getElem?_map, Array.getElem?_toList, hc]; rfl
theorem i_str (h : EvX C te M δ μ μ1 (.d (.str x))) : EvI C (iStr te) M δ μ μ1 (signs x) := fun σ H o R k => h σ H o _ fun v H1 o1 x1 r1 => ⟨x, Dp.str_of r1, k _ H1 o1 x1 w_str⟩
theorem o_inSign {c : Nat} : OpX C (fun x y H Q => ∃ (c : Nat) (z : Str), x = .str ⟨#[c]⟩ ∧ y = .str z ∧ Q (.bl (decide (c ∈ z.cps.toList))) H) M δ μ μ (.d (.str ⟨#[c]⟩)) (.d (.str x)) (.d (.bool (decide (c ∈ x.cps.toList)))) := fun σ H u v o h1 h2 Q k => ⟨c, x, Dp.str_of h1, Dp.str_of h2, k _ H o (Ex.refl _) (.bl _)⟩
/-- a <= b <= c of ints -/
theorem x_chainI {g g' : Int → Int → Bool} {m n k : Int} (ha : EvX C ta M δ μ μ (.d (.int m))) (hb : EvX C tb M δ μ μ (.d (.int n))) (hc : EvX C tc M δ μ μ (.d (.int k))) : EvX C (tChain (rI0 fun i j => .bl (g i j)) (rI0 fun i j => .bl (g' i j)) ta tb tc) M δ μ μ (.d (.bool (g m n && g' n k))) := fun σ H o Q kk =>
  ha σ H o _ fun u H1 o1 x1 r1 => hb σ H1 o1 _ fun v H2 o2 x2 r2 => ⟨m, n, Dp.int_of r1, Dp.int_of r2, g m n, rfl, by
    cases h : g m n with
    | true =>
      rw [if_pos rfl]
      exact hc σ H2 o2 _ fun w H3 o3 x3 r3 => ⟨n, k, Dp.int_of r2, Dp.int_of r3, kk _ H3 o3 ((x1.trans x2).trans x3) (by rw [h]; exact .bl _)⟩
    | false =>
      rw [if_neg (by decide)]
      exact kk _ H2 o2 (x1.trans x2) (by rw [h]; exact .bl _)⟩
theorem x_upper (h : EvX C te M δ μ μ1 (.d (.str x))) (hz : x.length ≤ 5592405) : EvX C (tM0 (fun x xs H Q => ∃ a, x = .str a ∧ xs = [] ∧ a.length ≤ 5592405 ∧ Q (.str (Txt.upper a)) H) te) M δ μ μ1 (.d (.str (Txt.upper x))) := fun σ H o Q k => h σ H o _ fun v H1 o1 x1 r1 => ⟨⟨x, Dp.str_of r1⟩, x, Dp.str_of r1, rfl, hz, k _ H1 o1 x1 (.str _)⟩
theorem o_inDd {d : PyData} {ds : List PyData} {e' : Ent} (r1 : Rdd μ e d) (r2 : Rdd μ e' (.list ds)) (s1 : SeqAt.shaped d = true) (s2 : SeqAt.shaped (.list ds) = true) : OpX C (rInD C.K) M δ μ μ e e' (.d (.bool (ds.any fun z => PyData.eqv z d))) := fun σ H x y o h1 h2 Q k =>
  ⟨d, ds, r1.dp o h1, r2.dp o h2, s1, s2, k _ H o (Ex.refl _) (.bl _)⟩
theorem o_isB {b c : Bool} : OpX C rIsB M δ μ μ (.d (.bool b)) (.d (.bool c)) (.d (.bool (decide (b = c)))) := fun σ H x y o h1 h2 Q k => ⟨b, c, Dp.bool_of h1, Dp.bool_of h2, k _ H o (Ex.refl _) (.bl _)⟩
theorem o_notIsB {b c : Bool} : OpX C rNotB M δ μ μ (.d (.bool b)) (.d (.bool c)) (.d (.bool (!decide (b = c)))) := fun σ H x y o h1 h2 Q k => ⟨b, c, Dp.bool_of h1, Dp.bool_of h2, k _ H o (Ex.refl _) (.bl _)⟩
/-! ### list(..) as data; three values at once -/
theorem c_listTd {ds : List PyData} : CallX C (rListOf C.K) M δ μ μ [.d (.tuple ds)] (.d (.list ds)) := fun σ H vs o h Q k => by
  obtain ⟨v, rfl, q⟩ := p1 h
  obtain ⟨a, ws, q1, q2, q3⟩ := Dp.tup_of q
  refine ⟨a, ws, by rw [q1], .inr (ex_t hide_le q2), fun l hl => ?_⟩
  obtain ⟨o', x', d'⟩ := o.lst hl q3
  exact k _ _ o' x' d'
theorem c_listLd {ds : List PyData} (r : Rdd μ e (.list ds)) : CallX C (rListOf C.K) M δ μ μ [e] (.d (.list ds)) := fun σ H vs o h Q k => by
  obtain ⟨v, rfl, q⟩ := p1 h
  obtain ⟨a, ws, q1, q2, q3⟩ := r.lst o q
  refine ⟨a, ws, by rw [q1], .inl q2, fun l hl => ?_⟩
  obtain ⟨o', x', d'⟩ := o.lst hl q3
  exact k _ _ o' x' d'
theorem c_tupleTd {ds : List PyData} : CallX C (rTupleS C.K) M δ μ μ [.d (.tuple ds)] (.d (.tuple ds)) := fun σ H vs o h Q k => by
  obtain ⟨v, rfl, q⟩ := p1 h
  obtain ⟨a, ws, q1, q2, q3⟩ := Dp.tup_of q
  refine ⟨a, ws, by rw [q1], .inr ⟨ex_t hide_le q2, ?_⟩⟩
  refine k _ H o (Ex.refl _) ?_
  rw [← q1]; exact q
theorem q_par3 {e1 e2 e3 : Ent} (h : EvA C tr M δ μ μ1 [e1, e2, e3]) (k : Run C t2 D M (((δ.set i e1).set j e2).set l e3) μ1) : Run C (tSeq (tPar3 i j l tr) t2) D M δ μ := fun σ H o =>
  h σ H o _ fun vs H1 o1 x1 r1 => by
    cases r1 with
    | cons h1 r1 =>
      cases r1 with
      | cons h2 r1 =>
        cases r1 with
        | cons h3 r1 =>
          cases r1
          exact ⟨_, _, _, rfl, k _ H1 (((o1.set i h1).set j h2).set l h3)⟩
end
end FD
namespace K83
/-! ### rows within rows -/
section
variable {α : Type} [DecidableEq α]
def eatStep (r : List α) (b : α) : List α := match r with
  | [] => []
  | a :: u => if a = b then u else a :: u
def eat (u v : List α) : List α := v.foldl eatStep u
theorem eat_nil (v : List α) : eat [] v = [] := by
  unfold eat
  induction v with
  | nil => rfl
  | cons b v ih => exact ih
theorem eat_snoc (u v : List α) (b : α) : eat u (v ++ [b]) = eatStep (eat u v) b := by
  unfold eat
  rw [List.foldl_append]; rfl
theorem eat_append (u v w : List α) : eat u (v ++ w) = eat (eat u v) w := by
  unfold eat
  rw [List.foldl_append]
theorem eat_sub : ∀ (v u : List α), eat u v = [] ↔ u.Sublist v
  | [], u => by
    show u = [] ↔ _
    exact List.sublist_nil.symm
  | b :: v, u => by
    show eat (eatStep u b) v = [] ↔ _
    rw [eat_sub v]
    cases u with
    | nil => exact ⟨fun _ => List.nil_sublist _, fun _ => List.nil_sublist _⟩
    | cons a u =>
      unfold eatStep
      by_cases h : a = b
      · rw [h]
        simp
      · simp only [h, if_false]
        exact ⟨fun q => q.cons b, fun q => by
          cases q with
          | cons _ q => exact q
          | cons_cons _ q => exact absurd rfl h⟩
theorem eatStep_suffix (r : List α) (b : α) : eatStep r b = r ∨ ∃ a, r = a :: eatStep r b := by
  cases r with
  | nil => exact .inl rfl
  | cons a u =>
    unfold eatStep
    by_cases h : a = b
    · simp [h]
    · simp [h]
theorem eat_drop (u : List α) : ∀ v : List α, ∃ n, eat u v = u.drop n ∧ n ≤ u.length := by
  intro v
  generalize hn : v.length = n
  induction n generalizing v with
  | zero => rw [List.eq_nil_of_length_eq_zero hn]; exact ⟨0, rfl, Nat.zero_le _⟩
  | succ n ih =>
    obtain ⟨w, b, rfl⟩ : ∃ w b, v = w ++ [b] := ⟨v.dropLast, v.getLast (by intro z; rw [z] at hn; cases hn), (List.dropLast_concat_getLast _).symm⟩
    obtain ⟨k, e, hk⟩ := ih w (by simp at hn; exact hn)
    rw [eat_snoc]
    rcases eatStep_suffix (eat u w) b with q | ⟨a, q⟩
    · exact ⟨k, by rw [q, e], hk⟩
    · have hlt : k < u.length := by
        have := congrArg List.length e
        rw [q, List.length_drop] at this
        simp at this; omega
      refine ⟨k + 1, ?_, by omega⟩
      rw [e] at q
      have := congrArg List.tail q
      rw [List.tail_cons] at this
      rw [e, ← this, ← List.drop_drop]
      simp
end
/-! ### makings -/
abbrev Row (α : Type) := List α
section
variable {α : Type} [DecidableEq α]
/-- a making: its deeds in turn, each with its row -/
abbrev Mk (α : Type) := List (α × List α)
def rowOf (m : Mk α) (k : α) : List α := ((m.find? fun p => decide (p.1 = k)).map (·.2)).getD []
def made (m : Mk α) (r : List α) : List α := r.flatMap (rowOf m)
theorem rowOf_at {m : Mk α} (hn : (m.map (·.1)).Nodup) {p : α × List α} (h : p ∈ m) : rowOf m p.1 = p.2 := by
  unfold rowOf
  induction m with
  | nil => cases h
  | cons q r ih =>
    rw [List.map_cons, List.nodup_cons] at hn
    rw [List.find?_cons]
    rcases List.mem_cons.mp h with e | h
    · subst e
      rw [decide_eq_true rfl]; rfl
    · rw [decide_eq_false (fun e => hn.1 (by rw [e]; exact List.mem_map.mpr ⟨p, h, rfl⟩))]
      exact ih hn.2 h
theorem flatMap_sub {β : Type} (f : α → List β) : ∀ {u v : List α}, u.Sublist v → (u.flatMap f).Sublist (v.flatMap f) := by
  intro u v h
  induction h with
  | slnil => exact List.Sublist.refl _
  | cons a _ ih => rw [List.flatMap_cons]; exact ih.trans (List.sublist_append_right _ _)
  | cons_cons a _ ih => rw [List.flatMap_cons, List.flatMap_cons]; exact (List.Sublist.refl _).append ih
/-- the others' names -/
def othersOf (m : Mk α) (k : α) : List α := (m.filter fun p => decide (p.1 ≠ k)).flatMap (·.2)
theorem filter_flatMap {β γ : Type} (p : γ → Bool) (f : β → List γ) : ∀ l : List β, (l.flatMap f).filter p = l.flatMap fun x => (f x).filter p
  | [] => rfl
  | x :: l => by rw [List.flatMap_cons, List.filter_append, filter_flatMap p f l, List.flatMap_cons]
theorem rep_sub {c : α} : ∀ {n : Nat} {A B : List α}, (List.replicate n c ++ A).Sublist (List.replicate n c ++ B) → A.Sublist B
  | _, _, _, h => (List.append_sublist_append_left _).mp h
/-- each deed of one told by runs of its own letter -/
theorem runs_sub {f : α → List α} {c : α → α} {n : α → Nat} (hf : ∀ k, f k = List.replicate (n k + 1) (c k)) : ∀ {v u : List α}, (∀ k ∈ u, ∀ j ∈ v, c k = c j → k = j) → (u.flatMap f).Sublist (v.flatMap f) → u.Sublist v
  | [], [], _, _ => List.Sublist.refl _
  | [], k :: u, _, h => by
    rw [List.flatMap_cons, hf] at h
    have := List.sublist_nil.mp h
    simp at this
  | j :: v, [], _, _ => List.nil_sublist _
  | j :: v, k :: u, hc, h => by
    rw [List.flatMap_cons, List.flatMap_cons] at h
    by_cases e : k = j
    · subst e
      rw [hf] at h
      exact (runs_sub hf (fun x hx y hy => hc x (List.mem_cons_of_mem _ hx) y (List.mem_cons_of_mem _ hy)) (rep_sub h)).cons_cons k
    · have ne : c k ≠ c j := fun q => e (hc k List.mem_cons_self j List.mem_cons_self q)
      refine (runs_sub (v := v) (u := k :: u) hf (fun x hx y hy => hc x hx y (List.mem_cons_of_mem _ hy)) ?_).cons j
      rw [List.flatMap_cons]
      have key : ∀ (m : Nat) (x y : α), x ≠ y → ∀ (A B : List α), (x :: A).Sublist (List.replicate m y ++ B) → (x :: A).Sublist B := by
        intro m x y hxy
        induction m with
        | zero => intro A B q; exact q
        | succ m ih =>
          intro A B q
          rw [List.replicate_succ, List.cons_append] at q
          cases q with
          | cons _ q => exact ih _ _ q
          | cons_cons _ q => exact absurd rfl hxy
      rw [hf k, List.replicate_succ, List.cons_append] at h ⊢
      rw [hf j] at h
      exact key _ _ _ ne _ _ h
theorem filter_rep {p : α → Bool} {c : α} : ∀ {l : List α}, c ∈ l → (∀ x ∈ l, p x = true ↔ x = c) → ∃ n, l.filter p = List.replicate (n + 1) c := by
  intro l hc h
  have e : l.filter p = List.replicate (l.filter p).length c := by
    refine List.eq_replicate_iff.mpr ⟨rfl, fun x hx => ?_⟩
    obtain ⟨h1, h2⟩ := List.mem_filter.mp hx
    exact (h x h1).mp h2
  have hp : 0 < (l.filter p).length := List.length_pos_iff.mpr fun z => by
    have : c ∈ l.filter p := List.mem_filter.mpr ⟨hc, (h c hc).mpr rfl⟩
    rw [z] at this; cases this
  exact ⟨(l.filter p).length - 1, by rw [show (l.filter p).length - 1 + 1 = (l.filter p).length by omega]; exact e⟩
/-- where each deed has a name of its own, rows lie within rows as their made rows do -/
theorem exact_sub {m : Mk α} (ho : ∀ k ∈ m.map (·.1), ∃ c, c ∈ rowOf m k ∧ ∀ j ∈ m.map (·.1), j ≠ k → c ∉ rowOf m j) {u v : List α} (hu : ∀ k ∈ u, k ∈ m.map (·.1)) (hv : ∀ k ∈ v, k ∈ m.map (·.1)) (h : (made m u).Sublist (made m v)) : u.Sublist v := by
  have hch : ∃ c : α → α, ∀ k ∈ m.map (·.1), c k ∈ rowOf m k ∧ ∀ j ∈ m.map (·.1), j ≠ k → c k ∉ rowOf m j := by
    refine ⟨fun k => if hk : k ∈ m.map (·.1) then Classical.choose (ho k hk) else k, fun k hk => ?_⟩
    simp only [hk, dite_true]
    exact Classical.choose_spec (ho k hk)
  obtain ⟨c, hc⟩ := hch
  have inj : ∀ k ∈ m.map (·.1), ∀ j ∈ m.map (·.1), c k = c j → k = j := fun k hk j hj e => by
    by_cases q : k = j
    · exact q
    · exact absurd (e ▸ (hc k hk).1) ((hc j hj).2 k hk q)
  let p : α → Bool := fun x => (m.map (·.1)).any fun k => decide (c k = x)
  have hp : ∀ k ∈ m.map (·.1), ∀ x ∈ rowOf m k, p x = true ↔ x = c k := fun k hk x hx => by
    show (m.map (·.1)).any (fun k => decide (c k = x)) = true ↔ _
    rw [List.any_eq_true]
    constructor
    · rintro ⟨j, hj, e⟩
      have e := of_decide_eq_true e
      by_cases q : j = k
      · rw [← e, q]
      · exact absurd (by rw [e]; exact hx) ((hc j hj).2 k hk (fun z => q z.symm))
    · intro e
      exact ⟨k, hk, decide_eq_true e.symm⟩
  have h2 := h.filter p
  unfold made at h2
  rw [filter_flatMap, filter_flatMap] at h2
  have hn : ∃ n : α → Nat, ∀ k ∈ m.map (·.1), (rowOf m k).filter p = List.replicate (n k + 1) (c k) := by
    have q : ∀ k ∈ m.map (·.1), ∃ n, (rowOf m k).filter p = List.replicate (n + 1) (c k) := fun k hk => filter_rep (hc k hk).1 (hp k hk)
    refine ⟨fun k => if hk : k ∈ m.map (·.1) then Classical.choose (q k hk) else 0, fun k hk => ?_⟩
    simp only [hk, dite_true]
    exact Classical.choose_spec (q k hk)
  obtain ⟨n, hn⟩ := hn
  have e : ∀ w : List α, (∀ k ∈ w, k ∈ m.map (·.1)) → (w.flatMap fun k => (rowOf m k).filter p) = w.flatMap fun k => List.replicate (n k + 1) (c k) := by
    intro w hw
    induction w with
    | nil => rfl
    | cons k w ih => rw [List.flatMap_cons, List.flatMap_cons, hn k (hw k List.mem_cons_self), ih fun j hj => hw j (List.mem_cons_of_mem _ hj)]
  rw [e u hu, e v hv] at h2
  exact runs_sub (f := fun k => List.replicate (n k + 1) (c k)) (c := c) (n := n) (fun _ => rfl) (fun k hk j hj => inj k (hu k hk) j (hv j hj)) h2
end
end K83
namespace K83
section
variable {α : Type} [DecidableEq α]
/-! ### fits from a place on -/
def fitStep (row : List α) (p : Nat) (x : α) : Nat := if row[p]? = some x then p + 1 else p
def fit (row : List α) (p : Nat) (s : List α) : Nat := s.foldl (fitStep row) p
theorem fit_cons (row : List α) (p : Nat) (x : α) (s : List α) : fit row p (x :: s) = fit row (fitStep row p x) s := rfl
theorem fit_snoc (row : List α) (p : Nat) (s : List α) (x : α) : fit row p (s ++ [x]) = fitStep row (fit row p s) x := by unfold fit; rw [List.foldl_append]; rfl
theorem fit_append (row : List α) (p : Nat) (s t : List α) : fit row p (s ++ t) = fit row (fit row p s) t := by unfold fit; rw [List.foldl_append]
theorem fitStep_le (row : List α) (p : Nat) (x : α) : p ≤ fitStep row p x ∧ (p ≤ row.length → fitStep row p x ≤ row.length) := by
  unfold fitStep
  split
  · rename_i h
    have := (List.getElem?_eq_some_iff.mp h).1
    omega
  · omega
theorem fit_le (row : List α) : ∀ (s : List α) (p : Nat), p ≤ fit row p s ∧ (p ≤ row.length → fit row p s ≤ row.length)
  | [], p => ⟨Nat.le_refl _, fun h => h⟩
  | x :: s, p => by
    have h1 := fitStep_le row p x
    have h2 := fit_le row s (fitStep row p x)
    rw [fit_cons]
    exact ⟨Nat.le_trans h1.1 h2.1, fun h => h2.2 (h1.2 h)⟩
theorem fit_lt (row : List α) : ∀ (s : List α) (p : Nat) (a : α), row[p]? = some a → a ∈ s → p < fit row p s
  | x :: s, p, a, h, hs => by
    rw [fit_cons]
    by_cases e : row[p]? = some x
    · have : fitStep row p x = p + 1 := if_pos e
      rw [this]
      exact (fit_le row s (p + 1)).1
    · have : fitStep row p x = p := if_neg e
      rw [this]
      rcases List.mem_cons.mp hs with q | q
      · exact absurd (q ▸ h) e
      · exact fit_lt row s p a h q
theorem eat_fit (row : List α) : ∀ (s : List α) (p : Nat), eat (row.drop p) s = row.drop (fit row p s)
  | [], p => rfl
  | x :: s, p => by
    show eat (eatStep (row.drop p) x) s = _
    rw [fit_cons, ← eat_fit row s (fitStep row p x)]
    congr 1
    unfold fitStep
    cases h : row[p]? with
    | none =>
      have hl : row.length ≤ p := List.getElem?_eq_none_iff.mp h
      rw [List.drop_eq_nil_of_le hl]
      simp [eatStep, List.drop_eq_nil_of_le hl]
    | some a =>
      have hl := (List.getElem?_eq_some_iff.mp h).1
      have e : row.drop p = a :: row.drop (p + 1) := by
        rw [List.drop_eq_getElem_cons hl]
        rw [List.getElem?_eq_getElem hl] at h
        rw [Option.some.inj h]
      rw [e]
      unfold eatStep
      by_cases q : a = x
      · subst q; simp
      · show (if a = x then row.drop (p + 1) else a :: row.drop (p + 1)) = _
        rw [if_neg q, if_neg (fun z => q (Option.some.inj z)), e]
def fitAll (m : Mk α) (row : List α) (p : Nat) (ks : List α) : Nat := ks.foldl (fun p k => fit row p (rowOf m k)) p
theorem fit_made (m : Mk α) (row : List α) : ∀ (ks : List α) (p : Nat), fit row p (made m ks) = fitAll m row p ks
  | [], p => rfl
  | k :: ks, p => by
    show fit row p (made m (k :: ks)) = fitAll m row (fit row p (rowOf m k)) ks
    rw [← fit_made m row ks]
    unfold made
    rw [List.flatMap_cons, fit_append]
/-- the row lies in the made row as all of it is fitted -/
theorem sub_made (m : Mk α) (row ks : List α) : row.Sublist (made m ks) ↔ fitAll m row 0 ks = row.length := by
  rw [← eat_sub, ← fit_made]
  have h := eat_fit row (made m ks) 0
  rw [List.drop_zero] at h
  rw [h, List.drop_eq_nil_iff]
  have := (fit_le row (made m ks) 0).2 (Nat.zero_le _)
  omega
/-! ### all choices of so many names, in turn -/
def lev (names : List α) : Nat → List (List α)
  | 0 => [[]]
  | s + 1 => (lev names s).flatMap fun one => names.map fun n => one ++ [n]
theorem lev_cons (names : List α) : ∀ s, lev names (s + 1) = names.flatMap fun n => (lev names s).map (n :: ·)
  | 0 => by
    show ([[]] : List (List α)).flatMap (fun one => names.map fun n => one ++ [n]) = names.flatMap fun n => ([[]] : List (List α)).map (n :: ·)
    rw [List.flatMap_singleton]
    have : ∀ l : List α, l.map (fun n => ([] : List α) ++ [n]) = l.flatMap fun n => ([[]] : List (List α)).map (n :: ·) := by
      intro l
      induction l with
      | nil => rfl
      | cons x l ih => rw [List.map_cons, List.flatMap_cons, ih]; rfl
    exact this names
  | s + 1 => by
    refine (congrArg (List.flatMap fun one => names.map fun n => one ++ [n]) (lev_cons names s)).trans ?_
    rw [List.flatMap_assoc]
    congr 1
    funext n
    show ((lev names s).map (n :: ·)).flatMap _ = (lev names (s + 1)).map (n :: ·)
    show _ = ((lev names s).flatMap fun one => names.map fun k => one ++ [k]).map (n :: ·)
    rw [List.map_flatMap, List.flatMap_map]
    congr 1
    funext one
    rw [List.map_map]
    rfl
theorem lev_len (names : List α) : ∀ s, ∀ x ∈ lev names s, x.length = s
  | 0, x, h => by
    have : x = [] := by simpa [lev] using h
    rw [this]; rfl
  | s + 1, x, h => by
    obtain ⟨one, h1, h2⟩ := List.mem_flatMap.mp h
    obtain ⟨n, _, e⟩ := List.mem_map.mp h2
    rw [← e, List.length_append, lev_len names s one h1]; rfl
theorem lev_count (names : List α) : ∀ s, (lev names s).length = names.length ^ s
  | 0 => by simp [lev]
  | s + 1 => by
    show ((lev names s).flatMap fun one => names.map fun n => one ++ [n]).length = _
    rw [List.length_flatMap]
    have : ∀ l : List (List α), (l.map fun one => (names.map fun n => one ++ [n]).length).sum = l.length * names.length := by
      intro l
      induction l with
      | nil => simp
      | cons x l ih => rw [List.map_cons, List.sum_cons, ih, List.length_map, List.length_cons, Nat.succ_mul, Nat.add_comm]
    rw [this, lev_count names s, Nat.pow_succ]
theorem lev_names (names : List α) : ∀ s, ∀ x ∈ lev names s, ∀ k ∈ x, k ∈ names
  | 0, x, h, k, hk => by
    have : x = [] := by simpa [lev] using h
    rw [this] at hk; cases hk
  | s + 1, x, h, k, hk => by
    obtain ⟨one, h1, h2⟩ := List.mem_flatMap.mp h
    obtain ⟨n, hn, e⟩ := List.mem_map.mp h2
    rw [← e] at hk
    rcases List.mem_append.mp hk with q | q
    · exact lev_names names s one h1 k q
    · rw [List.mem_singleton.mp q]; exact hn
/-! ### the least numbers -/
/-- F p: the least number of names that fit the row from p on -/
structure Least (m : Mk α) (row names : List α) (F : Nat → Nat) (p0 : Nat) : Prop where
  end_ : F row.length = 0
  one : ∀ p, p0 ≤ p → p < row.length → ∃ n ∈ names, p < fit row p (rowOf m n) ∧ F p = 1 + F (fit row p (rowOf m n))
  le : ∀ p, p0 ≤ p → p < row.length → ∀ n ∈ names, p < fit row p (rowOf m n) → F p ≤ 1 + F (fit row p (rowOf m n))
variable {m : Mk α} {row names : List α} {F : Nat → Nat}
def reach (m : Mk α) (row : List α) (p : Nat) (one : List α) : Bool := decide (fitAll m row p one = row.length)
theorem least_le (L : Least m row names F 0) : ∀ (ks : List α) (p : Nat), p ≤ row.length → (∀ k ∈ ks, k ∈ names) → fitAll m row p ks = row.length → F p ≤ ks.length
  | [], p, _, _, h => by
    have h : p = row.length := h
    rw [h, L.end_]; exact Nat.zero_le _
  | k :: ks, p, hp, hk, h => by
    have f := fit_le row (rowOf m k) p
    have ih := least_le L ks (fit row p (rowOf m k)) (f.2 hp) (fun x hx => hk x (List.mem_cons_of_mem _ hx)) h
    rw [List.length_cons]
    by_cases e : p = row.length
    · rw [e, L.end_]; exact Nat.zero_le _
    · by_cases q : p < fit row p (rowOf m k)
      · have := L.le p (Nat.zero_le _) (by omega) k (hk k List.mem_cons_self) q
        omega
      · have : fit row p (rowOf m k) = p := by omega
        rw [this] at ih
        omega
theorem least_bound (L : Least m row names F 0) : ∀ (k p : Nat), p ≤ row.length → row.length - p = k → F p ≤ k := by
  intro k
  induction k using Nat.strongRecOn with
  | _ k ih =>
    intro p hp hk
    by_cases e : p = row.length
    · rw [e, L.end_]; exact Nat.zero_le _
    · obtain ⟨n, hn, h1, h2⟩ := L.one p (Nat.zero_le _) (by omega)
      have f := (fit_le row (rowOf m n) p).2 hp
      have := ih (row.length - fit row p (rowOf m n)) (by omega) _ f rfl
      omega
def best (m : Mk α) (row names : List α) (F : Nat → Nat) (p : Nat) : Option (List α) := (lev names (F p)).find? (reach m row p)
theorem best_end (L : Least m row names F 0) : best m row names F row.length = some [] := by
  unfold best
  rw [L.end_]
  show ([[]] : List (List α)).find? _ = _
  rw [List.find?_cons]
  have : reach m row row.length [] = true := decide_eq_true rfl
  rw [this]
theorem find_map_cons (p q : Nat) (n : α) (hq : q = fit row p (rowOf m n)) (l : List (List α)) : (l.map (n :: ·)).find? (reach m row p) = (l.find? (reach m row q)).map (n :: ·) := by
  rw [List.find?_map]
  congr 1
  have : (reach m row p ∘ fun x => n :: x) = reach m row q := by
    funext x
    rw [hq]; rfl
  rw [this]
theorem find_flat {β γ : Type} (f : β → List γ) (P : γ → Bool) : ∀ l : List β, (l.flatMap f).find? P = l.findSome? fun x => (f x).find? P
  | [] => rfl
  | x :: l => by
    rw [List.flatMap_cons, List.find?_append, List.findSome?_cons, find_flat f P l]
    cases (f x).find? P <;> rfl
theorem best_some (L : Least m row names F 0) : ∀ (k p : Nat), p ≤ row.length → row.length - p = k → ∃ x, best m row names F p = some x := by
  intro k
  induction k using Nat.strongRecOn with
  | _ k ih =>
    intro p hp hk
    by_cases e : p = row.length
    · rw [e]; exact ⟨_, best_end L⟩
    · obtain ⟨n, hn, h1, h2⟩ := L.one p (Nat.zero_le _) (by omega)
      have f := (fit_le row (rowOf m n) p).2 hp
      obtain ⟨x, hx⟩ := ih (row.length - fit row p (rowOf m n)) (by omega) _ f rfl
      cases hb : best m row names F p with
      | some y => exact ⟨y, rfl⟩
      | none =>
        unfold best at hb hx
        have hmem : (n :: x) ∈ lev names (F p) := by
          rw [h2, Nat.add_comm, lev_cons]
          exact List.mem_flatMap.mpr ⟨n, hn, List.mem_map.mpr ⟨x, List.mem_of_find?_eq_some hx, rfl⟩⟩
        have := List.find?_eq_none.mp hb _ hmem
        exact absurd (List.find?_some hx) this
/-- the first name that leads on, as the program takes it -/
theorem best_step (L : Least m row names F 0) {p : Nat} (hp : p < row.length) {pre post : List α} {n : α} (he : names = pre ++ n :: post)
    (hpre : ∀ x ∈ pre, ¬ (p < fit row p (rowOf m x) ∧ F (fit row p (rowOf m x)) + 1 = F p)) (h1 : p < fit row p (rowOf m n)) (h2 : F (fit row p (rowOf m n)) + 1 = F p) :
    best m row names F p = (best m row names F (fit row p (rowOf m n))).map (n :: ·) := by
  have f := (fit_le row (rowOf m n) p).2 (by omega)
  obtain ⟨x, hx⟩ := best_some L _ _ f rfl
  rw [hx]
  unfold best at hx ⊢
  rw [← h2, lev_cons, find_flat]
  have hfun : ∀ y, ((lev names (F (fit row p (rowOf m n)))).map (y :: ·)).find? (reach m row p) = ((lev names (F (fit row p (rowOf m n)))).find? (reach m row (fit row p (rowOf m y)))).map (y :: ·) := fun y => find_map_cons p _ y rfl _
  have hnone : ∀ y ∈ pre, ((lev names (F (fit row p (rowOf m n)))).map (y :: ·)).find? (reach m row p) = none := fun y hy => by
    rw [hfun]
    have : (lev names (F (fit row p (rowOf m n)))).find? (reach m row (fit row p (rowOf m y))) = none := by
      rw [List.find?_eq_none]
      intro z hz hr
      have hr := of_decide_eq_true hr
      have fy := fit_le row (rowOf m y) p
      have hl := least_le L z _ (fy.2 (by omega)) (lev_names _ _ z hz) hr
      rw [lev_len _ _ z hz] at hl
      have ny : y ∈ names := by rw [he]; exact List.mem_append_left _ hy
      by_cases q : p < fit row p (rowOf m y)
      · have := L.le p (Nat.zero_le _) hp y ny q
        exact hpre y hy ⟨q, by omega⟩
      · have : fit row p (rowOf m y) = p := by omega
        rw [this] at hl
        omega
    rw [this]; rfl
  have key : ∀ l : List α, (∀ y ∈ l, ((lev names (F (fit row p (rowOf m n)))).map (y :: ·)).find? (reach m row p) = none) → (l ++ n :: post).findSome? (fun y => ((lev names (F (fit row p (rowOf m n)))).map (y :: ·)).find? (reach m row p)) = some (n :: x) := by
    intro l hl
    induction l with
    | nil =>
      rw [List.nil_append, List.findSome?_cons, hfun n, hx]; rfl
    | cons y l ih =>
      rw [List.cons_append, List.findSome?_cons, hl y List.mem_cons_self]
      exact ih fun z hz => hl z (List.mem_cons_of_mem _ hz)
  have e := key pre hnone
  rw [← he] at e
  exact e
/-- what the law finds: the first choice of at most five names that reaches the end -/
def found6 (m : Mk α) (row names : List α) : Option (List α) := ((List.range 6).flatMap (lev names)).find? (reach m row 0)
theorem found6_best (L : Least m row names F 0) (h : row.length ≤ 5) : found6 m row names = best m row names F 0 := by
  have hb := least_bound L row.length 0 (Nat.zero_le _) rfl
  obtain ⟨x, hx⟩ := best_some L _ 0 (Nat.zero_le _) rfl
  unfold found6
  rw [find_flat, hx]
  unfold best at hx
  have hlow : ∀ s, s < F 0 → (lev names s).find? (reach m row 0) = none := fun s hs => by
    rw [List.find?_eq_none]
    intro z hz hr
    have := least_le L z 0 (Nat.zero_le _) (lev_names _ _ z hz) (of_decide_eq_true hr)
    rw [lev_len _ _ z hz] at this
    omega
  have key : ∀ k, k ≤ 6 → k ≤ F 0 → (List.range' k (6 - k)).findSome? (fun s => (lev names s).find? (reach m row 0)) = (List.range' 0 6).findSome? (fun s => (lev names s).find? (reach m row 0)) := by
    intro k
    induction k with
    | zero => intro _ _; rfl
    | succ k ih =>
      intro h1 h2
      rw [← ih (by omega) (by omega), show 6 - k = (6 - (k + 1)) + 1 by omega, List.range'_succ, List.findSome?_cons, hlow k (by omega)]
  rw [List.range_eq_range', ← key (F 0) (by omega) (Nat.le_refl _), show 6 - F 0 = (5 - F 0) + 1 by omega, List.range'_succ, List.findSome?_cons, hx]
end
end K83
/-! Lists of plain rows: made, grown, cut, turned, told as tuples; t * n of a plain row. -/
namespace FD
open PySem PySem.Spec L2 Evl PyProof.Rows
theorem tuple_mulE (l : Addr) (items : Array Value) (n : Nat) (sl : Array (Option Value)) (dd : Option Addr) (x : Int) (u : Tok) (c0 : (decide (x < -(2 ^ 63)) || decide (x ≥ 2 ^ 63)) = false) (he : items.isEmpty = true) :
    Meets (Builtin.«tuple.__mul__» ⟨[.ref l, .int x u], []⟩) (fun _ R s => s.heap.get? l = some { cls := .type "tuple", dict := dd, data := .seq items n, slots := sl } ∧ R (.ok (.ret (Value.ref l))) s) :=
  .of_wp fun prog w A R s h => by
    obtain ⟨hp, g, d, tk, os⟩ := s
    obtain ⟨hl, h⟩ := h
    have f1 := AutoSeq1.idx_int
    have c1 : (items.isEmpty || x == 1) = true := by rw [he]; rfl
    wp_walk using wpAny_loadPart' hl
    repeat (first
      | (refine wpAny_ite_false (decide_eq_false (by rw [c0]; exact Bool.false_ne_true)) ?_; wp_walk using wpAny_loadPart' hl)
      | (refine wpAny_ite_true (decide_eq_true c1) ?_; wp_walk using wpAny_loadPart' hl))
    exact ⟨_, rfl, h⟩
def rRepF (K : PySem.W.Frag) : R2 := fun x y H Q => ∃ l k xs, x = .ref l ∧ y = .int k ∧ SqT K H l xs ∧ 2 ≤ k ∧ k ≤ 1000 ∧ xs.length ≤ 1000 ∧ (xs = [] → Q (.ref l) H) ∧ (xs ≠ [] → ∀ p o, plO o → H p = none → Q (.ref p) (upd H p (.frz o (.tup (List.replicate k.toNat xs).flatten))))
section
variable {X : Cx}
theorem op_repF : OpR X (binaryOp .Mult) (rRepF X.K) := by
  intro pins s σ H x y v u Q I rx ry h
  obtain ⟨l, k, xs, rfl, rfl, hT, h1, h2, hz, q0, q⟩ := h
  cases rx
  obtain ⟨t, rfl⟩ := ry
  obtain ⟨its, r, ⟨⟨cls, dd, data, sl⟩, ho, hc, n, hd⟩, hs⟩ := I.tuple hT
  simp only at hc hd
  subst hc hd
  have hle : its.length = xs.length := r.length.symm
  have c0 : (decide (k < -(2 ^ 63)) || decide (k ≥ 2 ^ 63)) = false := by
    rw [decide_eq_false (by omega), decide_eq_false (by omega)] <;> rfl
  by_cases hne : xs = []
  · have hi : its.toArray.isEmpty = true := by
      rw [hne] at hle
      rw [List.eq_nil_of_length_eq_zero hle]; rfl
    exact wpAny_binaryOp_repeat_ref (T := "tuple") (U := "int") (by decide) ⟨_, ho, rfl⟩ (fun s' => typeIs_int s' k t) noFill_tuple_mul F.fills_int_mul F.slot_int_rmul repeat_tuple F.slot_int_index.lookup
      (call_meets F.slot_int_rmul (typeIs_int s k t) F.entry_int_rmul (F.args_int_rmul_2 _ _) (int_rmul_tuple k t l its.toArray n dd sl)
        ⟨ho, rfl, ⟨_, ho, rfl⟩, call_meets F.slot_tuple_mul ⟨_, ho, rfl⟩ F.entry_tuple_mul (F.args_tuple_mul_2 _ _) (tuple_mulE l its.toArray n sl dd k t c0 hi) ⟨ho, ⟨.ref l, H, I, rfl, q0 hne⟩⟩⟩)
  have hn : its ≠ [] := fun e => hne (by
    rw [e] at hle
    exact List.eq_nil_of_length_eq_zero hle.symm)
  have hi : its.toArray.isEmpty = false := by
    cases its with
    | nil => exact absurd rfl hn
    | cons a b => rfl
  have hsz0 : its.toArray.size = xs.length := by rw [List.size_toArray, hle]
  have hm : ((its.toArray.size : Nat) : Int) * k ≤ 1000000 := by
    rw [hsz0]
    have a1 : ((xs.length : Nat) : Int) * k ≤ 1000 * k := Int.mul_le_mul_of_nonneg_right (by omega) (by omega)
    omega
  have flen : (List.replicate k.toNat its).flatten.length ≤ sizeLine := by
    rw [PyProof.Rows.lm_len_rep_flat, hle, sizeLine_eq]
    have a1 : k.toNat * xs.length ≤ 1000 * 1000 := Nat.mul_le_mul (by omega) hz
    omega
  have c1 : (its.toArray.isEmpty || k == 1) = false := by
    rw [hi, Bool.false_or]
    exact beq_eq_false_iff_ne.mpr (by omega)
  have c2 : (decide (k ≤ 0) || its.toArray.isEmpty) = false := by
    rw [hi, Bool.or_false]
    exact decide_eq_false (by omega)
  have c4 : Builtin.Tuple.tupleTooMany (((its.toArray.size : Nat) : Int) * k) = false := by
    unfold Builtin.Tuple.tupleTooMany
    rw [sizeLine_eq]
    exact decide_eq_false (by omega)
  refine wpAny_binaryOp_repeat_ref (T := "tuple") (U := "int") (by decide) ⟨_, ho, rfl⟩ (fun s' => typeIs_int s' k t) noFill_tuple_mul F.fills_int_mul F.slot_int_rmul repeat_tuple F.slot_int_index.lookup
    (call_meets F.slot_int_rmul (typeIs_int s k t) F.entry_int_rmul (F.args_int_rmul_2 _ _) (int_rmul_tuple k t l its.toArray n dd sl)
      ⟨ho, rfl, ⟨_, ho, rfl⟩, call_meets F.slot_tuple_mul ⟨_, ho, rfl⟩ F.entry_tuple_mul (F.args_tuple_mul_2 _ _) (tuple_mulW l its.toArray n dd sl k t c0 c1 c2 (by omega) c4 (by rw [size_rep, List.size_toArray]; exact flen)) ⟨ho, ?_⟩⟩)
  rw [size_rep]
  refine ⟨.ref s.heap.objs.size, _, I.laid (t' := s.toks) (o := .frz { cls := .type "tuple", data := .seq (List.replicate k.toNat its).flatten.toArray } (.tup (List.replicate k.toNat xs).flatten)) (fun b ob q => Heap.get?_push_of_some _ q) (Nat.le_refl _) ?_, rfl, q hne _ _ ⟨rfl, rfl⟩ (I.hok.fresh (Nat.le_refl _))⟩
  exact ⟨Heap.get?_push_size _ rfl, by rw [PyProof.Rows.lm_len_rep_flat, sizeLine_eq]; have a1 : k.toNat * xs.length ≤ 1000 * 1000 := Nat.mul_le_mul (by omega) hz; omega, _, r.rep k.toNat, IsTup.new _ _⟩
end
section
variable {C : Cfg} {M : List Addr} {δ : List Ent} {μ μ1 μ2 μ3 μ' : Mem} {ta tb te td ty : TE} {a b p : Addr} {d : PyData} {e : Ent} {tr : TA} {D : Ends} {t t2 ts : TS} {i j : Nat} {k k2 : List Str} {ks ks2 : List (List Str)}
theorem o_repP {n : Nat} (h2 : 2 ≤ n) (hn : n ≤ 1000) (hk : k.length ≤ 1000) : OpX C (rRepF C.K) M δ μ μ (.p k) (.d (.int (n : Nat))) (.p (List.replicate n k).flatten) := fun σ H x y o h1 h2' Q kk => by
  obtain ⟨a, e1, e2, e3⟩ := id h1
  have ef : (List.replicate ((n : Nat) : Int).toNat (k.map V.str)).flatten = ((List.replicate n k).flatten).map V.str := by
    rw [Int.toNat_natCast, List.map_flatten, List.map_replicate]
  refine ⟨a, (n : Nat), k.map V.str, e1, Dp.int_of h2', ex_t hide_le e2, by omega, by omega, by rw [List.length_map]; exact hk, fun z => ?_, fun _ p ob po hp => ?_⟩
  · have z : k = [] := List.map_eq_nil_iff.mp z
    rw [← e1]
    refine kk x H o (Ex.refl _) ?_
    have : (List.replicate n k).flatten = k := by
      rw [z]; induction n with
      | zero => omega
      | succ n _ => simp
    rw [this]; exact h1
  · rw [ef]
    obtain ⟨o', x', d'⟩ := ok_frzT (k := (List.replicate n k).flatten) o hp po
    exact kk _ _ o' x' d'
theorem prow_mono {K : PySem.W.Frag} {H H' : Hp} (x : Ex H H') {ks : List (List Str)} {vs : List V} (h : Paired (PRow K H) ks vs) : Paired (PRow K H') ks vs := Paired.mapP h fun _ _ q => PRow.mono x q
theorem Ok.lr {σ : L2.St} {H : Hp} (o : Ok C M δ μ σ H) {l : Addr} {vs : List V} (hl : H l = none) (q : Paired (PRow C.K (hide M H)) ks vs) :
    Ok C M δ μ σ (upd H l (.lst vs)) ∧ Ex (hide M H) (hide M (upd H l (.lst vs))) ∧ EntOk C.K (hide M (upd H l (.lst vs))) (.lr ks) (.ref l) := by
  have e : Ex H (upd H l (.lst vs)) := Ex.new hl
  exact ⟨o.grow e, hide_ex e, l, vs, rfl, SqL.of (by rw [hide_out (o.fresh hl), upd_same]), prow_mono (hide_ex e) q⟩
theorem Ok.rwt {σ : L2.St} {H : Hp} (o : Ok C M δ μ σ H) {l : Addr} {vs : List V} (hl : H l = none) (q : Paired (PRow C.K (hide M H)) ks vs) :
    Ok C M δ μ σ (upd H l (.tup vs)) ∧ Ex (hide M H) (hide M (upd H l (.tup vs))) ∧ EntOk C.K (hide M (upd H l (.tup vs))) (.rw ks) (.ref l) := by
  have e : Ex H (upd H l (.tup vs)) := Ex.new hl
  exact ⟨o.grow e, hide_ex e, l, vs, rfl, SqT.of (by rw [hide_out (o.fresh hl), upd_same]), prow_mono (hide_ex e) q⟩
theorem x_wlr (h : EvX C te M δ μ μ1 (.lr ks)) : EvX C te M δ μ μ1 (.d (.list (ks.map rowD))) := fun σ H o Q kk => h σ H o Q fun v H' o' x r => by
  obtain ⟨a, vs, e1, e2, e3⟩ := r
  rw [e1]
  exact kk _ H' o' x (.lst (by rw [e1] at *; exact e2) (prows_dp e3))
theorem x_vlr (h : δ[i]? = some (.lr ks)) : EvX C (tVar i) M δ μ μ (.lr ks) := x_var h (fun z => nomatch z)
theorem x_vlrd (h : δ[i]? = some (.lr ks)) : EvX C (tVar i) M δ μ μ (.d (.list (ks.map rowD))) := x_wlr (x_vlr h)
theorem c_listLr : CallX C (rListOf C.K) M δ μ μ [.lr ks] (.lr ks) := fun σ H vs o h Q kk => by
  obtain ⟨v, rfl, q⟩ := p1 h
  obtain ⟨a, ws, q1, q2, q3⟩ := q
  refine ⟨a, ws, by rw [q1], .inl (ex_l hide_le q2), fun l hl => ?_⟩
  obtain ⟨o', x', d'⟩ := o.lr hl q3
  exact kk _ _ o' x' d'
theorem c_tupleLr : CallX C (rTupleS C.K) M δ μ μ [.lr ks] (.rw ks) := fun σ H vs o h Q kk => by
  obtain ⟨v, rfl, q⟩ := p1 h
  obtain ⟨a, ws, q1, q2, q3⟩ := q
  refine ⟨a, ws, by rw [q1], .inl ⟨ex_l hide_le q2, fun l hl => ?_⟩⟩
  obtain ⟨o', x', d'⟩ := o.rwt hl q3
  exact kk _ _ o' x' d'
theorem prows_of {K : PySem.W.Frag} {Hh : Hp} : ∀ {ks : List (List Str)} {vs : List V}, Paired (EntOk K Hh) (ks.map Ent.p) vs → Paired (PRow K Hh) ks vs
  | [], _, .nil => .nil
  | _ :: _, _, .cons h t => .cons h (prows_of t)
theorem x_lstR (h : EvA C tr M δ μ μ1 (ks.map Ent.p)) (hl : ks.length ≤ 100000) : EvX C (tLst tr) M δ μ μ1 (.lr ks) := fun σ H o Q kk =>
  h σ H o _ fun vs H1 o1 x1 r1 => ⟨by have := paired_len r1; rw [List.length_map] at this; rw [← this]; exact sz_of hl, fun p hp => by
    obtain ⟨o', x', d'⟩ := o1.lr hp (prows_of r1)
    exact kk _ _ o' (x1.trans x') d'⟩
theorem x_tupR (h : EvA C tr M δ μ μ1 (ks.map Ent.p)) (hl : ks.length ≤ 100000) : EvX C (tTup tr) M δ μ μ1 (.rw ks) := fun σ H o Q kk =>
  h σ H o _ fun vs H1 o1 x1 r1 => ⟨by have := paired_len r1; rw [List.length_map] at this; rw [← this]; exact sz_of hl, fun p hp => by
    obtain ⟨o', x', d'⟩ := o1.rwt hp (prows_of r1)
    exact kk _ _ o' (x1.trans x') d'⟩
theorem prows_app {K : PySem.W.Frag} {Hh : Hp} : ∀ {ks ks2 : List (List Str)} {vs ws : List V}, Paired (PRow K Hh) ks vs → Paired (PRow K Hh) ks2 ws → Paired (PRow K Hh) (ks ++ ks2) (vs ++ ws)
  | [], _, _, _, .nil, q => q
  | _ :: _, _, _, _, .cons h t, q => .cons h (prows_app t q)
theorem o_catLr (hz : ks.length + ks2.length ≤ 100000) : OpX C (rCatL C.K) M δ μ μ (.lr ks) (.lr ks2) (.lr (ks ++ ks2)) := fun σ H u v o h1 h2 Q kk => by
  obtain ⟨a, vs, q1, q2, q3⟩ := h1
  obtain ⟨b, ws, p1, p2, p3⟩ := h2
  refine ⟨a, b, vs, ws, q1, p1, ex_l hide_le q2, ex_l hide_le p2, sz_of (by rw [← paired_len q3, ← paired_len p3]; exact hz), fun p hp => ?_⟩
  obtain ⟨o', x', d'⟩ := o.lr hp (prows_app q3 p3)
  exact kk _ _ o' x' d'
theorem prows_nil {K : PySem.W.Frag} {Hh : Hp} {ks : List (List Str)} {vs : List V} (h : Paired (PRow K Hh) ks vs) : vs = [] ↔ ks = [] := by
  cases h with
  | nil => simp
  | cons _ _ => simp
theorem o_catRw (hz : ks.length + ks2.length ≤ 100000) : OpX C (rCatA C.K) M δ μ μ (.rw ks) (.rw ks2) (.rw (ks ++ ks2)) := fun σ H x y o h1 h2 Q kk => by
  obtain ⟨a, vs, q1, q2, q3⟩ := id h1
  obtain ⟨b, ws, p1, p2, p3⟩ := id h2
  refine ⟨a, b, vs, ws, q1, p1, ex_t hide_le q2, ex_t hide_le p2, ?_, fun z => ?_, fun z1 z2 => ?_, fun z1 z2 p hp => ?_⟩
  · rw [← paired_len q3, ← paired_len p3]; exact sz_of hz
  · have z' := (prows_nil q3).mp z
    subst z'
    refine kk _ H o (Ex.refl _) ?_
    rw [← p1]; exact h2
  · have z' := (prows_nil p3).mp z2
    subst z'
    refine kk _ H o (Ex.refl _) ?_
    rw [← q1, List.append_nil]; exact h1
  · obtain ⟨o', x', d'⟩ := o.rwt hp (prows_app q3 p3)
    exact kk _ _ o' x' d'
theorem prows_take {K : PySem.W.Frag} {Hh : Hp} : ∀ (n : Nat) {ks : List (List Str)} {vs : List V}, Paired (PRow K Hh) ks vs → Paired (PRow K Hh) (ks.take n) (vs.take n)
  | 0, _, _, _ => .nil
  | _ + 1, _, _, .nil => .nil
  | n + 1, _, _, .cons h t => .cons h (prows_take n t)
theorem prows_drop {K : PySem.W.Frag} {Hh : Hp} : ∀ (n : Nat) {ks : List (List Str)} {vs : List V}, Paired (PRow K Hh) ks vs → Paired (PRow K Hh) (ks.drop n) (vs.drop n)
  | 0, _, _, h => h
  | _ + 1, _, _, .nil => .nil
  | n + 1, _, _, .cons _ t => prows_drop n t
theorem prows_rev {K : PySem.W.Frag} {Hh : Hp} : ∀ {ks : List (List Str)} {vs : List V}, Paired (PRow K Hh) ks vs → Paired (PRow K Hh) ks.reverse vs.reverse
  | [], _, .nil => .nil
  | _ :: _, _, .cons h t => by rw [List.reverse_cons, List.reverse_cons]; exact prows_app (prows_rev t) (.cons h .nil)
theorem x_revLr (h : EvX C te M δ μ μ1 (.lr ks)) : EvX C (tRevL C.K te) M δ μ μ1 (.lr ks.reverse) := fun σ H o Q kk => h σ H o _ fun v H1 o1 x1 r1 => by
  obtain ⟨a, vs, e1, e2, e3⟩ := r1
  refine ⟨a, vs, e1, ex_l hide_le e2, fun p hp => ?_⟩
  obtain ⟨o', x', d'⟩ := o1.lr hp (prows_rev e3)
  exact kk _ _ o' (x1.trans x') d'
/-- rows[:n] -/
theorem x_slLr {tl th : TO} {n : Nat} (h : EvX C te M δ μ μ1 (.lr ks)) (hl : EvO C tl M δ μ1 μ2 none) (hh : EvO C th M δ μ2 μ3 (some (n : Int))) : EvX C (tSl (rSlL C.K) te tl th) M δ μ μ3 (.lr (ks.take n)) := fun σ H o Q kk =>
  h σ H o _ fun v H1 o1 x1 r1 => hl σ H1 o1 _ fun H2 o2 x2 => hh σ H2 o2 _ fun H3 o3 x3 => by
    obtain ⟨a, vs, q1, q2, q3⟩ := EntOk.mono (e := .lr ks) (x2.trans x3) r1
    refine ⟨a, vs, q1, ex_l hide_le q2, fun p hp => ?_⟩
    have ec : cutV vs none (some (n : Int)) = vs.take n := by
      unfold cutV
      rw [HT.sIx_none, HT.sIx_nat, List.drop_zero, Nat.sub_zero]
      rcases Nat.le_total n vs.length with z | z
      · rw [Nat.min_eq_left z]
      · rw [Nat.min_eq_right z, List.take_of_length_le (Nat.le_refl _), List.take_of_length_le z]
    rw [ec]
    obtain ⟨o', x', d'⟩ := o3.lr hp (prows_take n q3)
    exact kk _ _ o' (((x1.trans x2).trans x3).trans x') d'
theorem prows_get {K : PySem.W.Frag} {Hh : Hp} {ks : List (List Str)} {vs : List V} (h : Paired (PRow K Hh) ks vs) {n : Nat} {k : List Str} (e : ks[n]? = some k) : ∃ v, vs[n]? = some v ∧ PRow K Hh k v := paired_at h e
theorem o_ixLr {n : Nat} (hk : ks[n]? = some k) : OpX C (rIxL C.K) M δ μ μ (.lr ks) (.d (.int (n : Int))) (.p k) := fun σ H x y o h1 h2 Q kk => by
  obtain ⟨a, vs, q1, q2, q3⟩ := h1
  obtain ⟨v, q4, q5⟩ := prows_get q3 hk
  exact ⟨a, vs, (n : Int), v, q1, Dp.int_of h2, ex_l hide_le q2, atI_nat q4, kk _ H o (Ex.refl _) q5⟩
/-! own lists of rows -/
theorem o_ixMr {n : Nat} (hj : μ[j]? = some (a, .lr ks)) (hk : ks[n]? = some k) : OpX C (rIxL C.K) M δ μ μ (.m a) (.d (.int (n : Int))) (.p k) := fun σ H x y o h1 h2 Q kk => by
  have e1 : x = .ref a := h1
  obtain ⟨_, _, vs, q2, q3⟩ := o.mem _ (List.mem_of_getElem? hj)
  obtain ⟨v, q4, q5⟩ := prows_get q3 hk
  exact ⟨a, vs, (n : Int), v, e1, Dp.int_of h2, SqL.of q2, atI_nat q4, kk _ H o (Ex.refl _) q5⟩
theorem run_lr0 (h : Run C t D M δ ((p, .lr []) :: μ)) : Run C t D M δ ((p, .lst []) :: μ) := fun σ H o => by
  obtain ⟨o1, o2, o3, o4, o5, o6, o7, o8⟩ := o
  refine h σ H ⟨o1, o2, fun q hq => ?_, o4, o5, o6, o7, o8⟩
  rcases List.mem_cons.mp hq with z | z
  · have := o3 (p, .lst []) List.mem_cons_self
    obtain ⟨m1, m2, vs, m3, m4⟩ := this
    subst z
    refine ⟨m1, m2, vs, m3, ?_⟩
    cases m4
    exact .nil
  · exact o3 q (List.mem_cons_of_mem _ z)
theorem r_appLr (hx : EvX C ta M δ μ μ1 (.m a)) (h : EvX C te M δ μ1 μ2 (.p k)) (h1 : μ1[j]? = some (a, .lr ks)) (hj : μ2[j]? = some (a, .lr ks)) (hz : ks.length < 100000) (kk : Nx C D M δ (μ2.set j (a, .lr (ks ++ [k])))) :
    Run C (tDrop (tBM C.K "list" rAppend ta (tCons te tNil))) D M δ μ := fun σ H o => hx σ H o _ fun v H1 o1 x1 r1 => by
  have e1 : v = .ref a := r1
  subst e1
  obtain ⟨_, _, vs1, q1, q2⟩ := o1.mem _ (List.mem_of_getElem? h1)
  refine ⟨.inl ⟨rfl, _, SqL.of q1⟩, ?_⟩
  refine h σ H1 o1 _ fun w H2 o2 x2 r2 => ?_
  obtain ⟨_, _, vs, q3, q4⟩ := o2.mem _ (List.mem_of_getElem? hj)
  refine ⟨a, vs, w, rfl, rfl, q3, sz_lt (by rw [← paired_len q4]; exact hz), ?_⟩
  exact kk _ _ (o2.write hj ⟨_, upd_same, prows_app q4 (.cons r2 .nil)⟩)
theorem prows_set {K : PySem.W.Frag} {Hh : Hp} : ∀ {ks : List (List Str)} {vs : List V} (n : Nat) {k : List Str} {v : V}, Paired (PRow K Hh) ks vs → PRow K Hh k v → Paired (PRow K Hh) (ks.set n k) (vs.set n v)
  | [], _, _, _, _, .nil, _ => .nil
  | _ :: _, _, 0, _, _, .cons _ t, q => .cons q t
  | _ :: _, _, n + 1, _, _, .cons h t, q => .cons h (prows_set n t q)
theorem r_setLr {n : Nat} {i : Int} (h : EvX C te M δ μ μ1 (.p k)) (hx : EvX C ta M δ μ1 μ2 (.m a)) (hi : EvX C tb M δ μ2 μ3 (.d (.int i))) (hj : μ3[j]? = some (a, .lr ks)) (hn : ixN ks.length i = some n) (kk : Nx C D M δ (μ3.set j (a, .lr (ks.set n k)))) :
    Run C (tAsg te (gSub ta tb rSetL)) D M δ μ := fun σ H o => h σ H o _ fun v H1 o1 x1 r1 => hx σ H1 o1 _ fun w H2 o2 x2 r2 => hi σ H2 o2 _ fun z H3 o3 x3 r3 => by
  have e1 : w = .ref a := r2
  subst e1
  obtain ⟨_, _, vs, q3, q4⟩ := o3.mem _ (List.mem_of_getElem? hj)
  refine ⟨a, vs, i, n, rfl, Dp.int_of r3, q3, by rw [← paired_len q4]; exact hn, ?_⟩
  exact kk _ _ (o3.write hj ⟨_, upd_same, prows_set n q4 (PRow.mono (x2.trans x3) r1)⟩)
/-- a list of rows that nobody changes any more -/
theorem Ok.settleLr {σ : L2.St} {H : Hp} (o : Ok C (p :: M) δ ((p, .lr ks) :: μ) σ H) (pM : p ∉ M) (h0 : ∀ a ∈ C.M0, a ∈ M) (hi : δ[i]? = some (.m p)) : Ok C M (δ.set i (.lr ks)) μ σ H := by
  have nd : p ∉ μ.map (·.1) ∧ (μ.map (·.1)).Nodup := List.nodup_cons.mp o.nd
  have o1 : Ok C (p :: M) δ μ σ H := o.mems (fun q hq => List.mem_cons_of_mem _ hq) nd.2
  have o2 : Ok C M δ μ σ H := o1.drop (fun a ha => List.mem_cons_of_mem _ ha) (fun q hq => (List.mem_cons.mp (o.mem q (List.mem_cons_of_mem _ hq)).1).elim (fun z => absurd (List.mem_map.mpr ⟨q, hq, z⟩) nd.1) id) h0
  obtain ⟨_, _, vs, q1, q2⟩ := o.mem _ List.mem_cons_self
  obtain ⟨v, hv, ev⟩ := o.slot i _ hi (fun z => nomatch z)
  have ev : v = .ref p := ev
  subst ev
  have dp : EntOk C.K (hide M H) (.lr ks) (.ref p) := ⟨p, vs, rfl, SqL.of (by rw [hide_out pM]; exact q1), prow_mono (hide_sub fun a ha => List.mem_cons_of_mem _ ha) q2⟩
  have o3 := o2.set i dp
  have e : σ.set i (some (.ref p)) = σ := by
    refine List.ext_getElem? fun j => ?_
    by_cases ej : i = j
    · subst ej
      rw [List.getElem?_set_self (List.getElem?_eq_some_iff.mp hv).1, hv]
    · rw [List.getElem?_set_ne ej]
  rwa [e] at o3
theorem run_settleLr (pM : p ∉ M) (h0 : ∀ a ∈ C.M0, a ∈ M) (hi : δ[i]? = some (.m p)) (h : Run C t D M (δ.set i (.lr ks)) μ) : Run C t D (p :: M) δ ((p, .lr ks) :: μ) := fun σ H o => h σ H (o.settleLr pM h0 hi)
end
end FD
/-! sorted(t, key=lambda x: (len(x), x)), t a tuple of rows. -/
namespace FD
open PySem L2 Evl
open PySem.Spec PyProof.Rows PySem.W PySem.Calls
section
variable {prog : Program} {w : World} {A : Around} {E : Value → Shared → Prop} {s : Shared} {β : Type} {R : Value → β → Prop} {vs : List Value} {bs : List β}
/-- sorted of a tuple: a list of its items, sorted by keys that are data -/
theorem sorted_keyT {l : Addr} {f : Value} {kw : List (Str × Value)} {Q : Value → Shared → Prop} (k : β → PyData) (tp : IsTup s.heap l vs.toArray) (e : EachIs R vs bs) (hal : AllAlike (bs.map k)) (hk : Sortable (bs.map k)) (hL : bs.length ≤ sizeLine)
    (hu : ∀ x, x ∈ bs → A.units + 2 + (k x).depth < cLine) (a1 : argsOk "sorted" ⟨[.ref l], kw⟩) (a2 : ∀ x, argsOk "list.sort" ⟨[.ref x], kw⟩) (tr : ∀ x, Builtin.«list.sort» ⟨[.ref x], kw⟩ = ksk_tree x f false)
    (turn : ∀ (v : Value) (x : β), R v x → x ∈ bs → ∀ (h : Heap) (tk : Nat), (∀ b o, s.heap.get? b = some o → h.get? b = some o) → wpAny (model prog w) A.in1.in1 (call f [v]) (KeyPure (k x) { s with heap := h, toks := tk }) (fun _ _ => False) { s with heap := h, toks := tk })
    (fin : ∀ (g : Heap) out c h' tk, (∀ b o, s.heap.get? b = some o → g.get? b = some o) → (∀ b o, g.get? b = some o → h'.get? b = some o) → h'.get? g.objs.size = some (seqObj "list" (List.toArray out) c) → out.length = bs.length → EachIs R out (bs.mergeSort (dataLe false k)) → Q (.ref g.objs.size) { s with heap := h', toks := tk }) :
    wpAny (model prog w) A (call (.builtin "sorted") [.ref l] kw) Q E s := by
  obtain ⟨o, ho, hc, n, hd⟩ := id tp
  have hz : vs.length ≤ sizeLine := by rw [e.length]; exact hL
  have hz2 : vs.toArray.size ≤ sizeLine := by rw [List.size_toArray]; exact hz
  apply call_function_entry_kw kind_sorted plain_sorted entry_sorted a1
  unfold Builtin.«sorted»
  apply wpAny_bind (m := checkCount "sorted" 1 1 _)
  apply wpAny_pure
  apply wpAny_bind
  refine wpAny_collect_seq l (.inr rfl) ho hc hd (fun g kg => ?_) hz2
  have ev : vs.toArray.toList = vs := by simp
  rw [ev]
  apply wpAny_bind
  refine wpAny_newList ?_ hz
  have new : (g.push (seqObj "list" vs.toArray 0)).get? g.objs.size = some (seqObj "list" vs.toArray 0) := Heap.get?_push_size _ rfl
  have oldg : ∀ {h : Heap}, KeepsBut g.objs.size (g.push (seqObj "list" vs.toArray 0)) h → ∀ b o, g.get? b = some o → h.get? b = some o := fun kp b o q1 => kp b o (Nat.ne_of_lt (Heap.lt_size q1)) (Heap.get?_push_of_some _ q1)
  have old : ∀ {h : Heap}, KeepsBut g.objs.size (g.push (seqObj "list" vs.toArray 0)) h → ∀ b o, s.heap.get? b = some o → h.get? b = some o := fun kp b o q => oldg kp b o (kg b o q)
  apply wpAny_bind
  apply wpAny_holding
  refine wpAny_call_entry_kw slot_list_sort ⟨_, new, rfl⟩ entry_list_sort ?srt (a2 _)
  case srt =>
    show wpAny (model prog w) A.in1.in1 (Builtin.«list.sort» ⟨[.ref g.objs.size], kw⟩) _ _ _
    rw [tr]
    refine keyH_tree (kz := bs.map k) (s := { s with heap := g.push (seqObj "list" vs.toArray 0) }) new (by rw [List.length_map, e.length]) hz hal hk (fun d hm => ?_) (keyH_turns (s := { s with heap := g.push (seqObj "list" vs.toArray 0) }) e fun v x r hx h tk kp => turn v x r hx h tk (old kp)) fun h' tk out c kp hD ko => ?_
    · obtain ⟨x, hx, rfl⟩ := List.mem_map.mp hm
      exact hu x hx
    · refine ⟨_, rfl, wpAny_pure ⟨_, rfl, ?_⟩⟩
      exact fin g out c h' tk kg (oldg kp) hD ((ko.length (by rw [List.length_map, e.length])).trans e.length) (keyedOut_each k ko e)
end
def tSortLamT (K : PySem.W.Frag) (P : Addr) (q : Str) (te : TE) : TE := fun σ H Q => te σ H fun x H1 => ∃ (a : Addr) (ys : List (V × List Str)), x = .ref a ∧ SqT K H1 a (ys.map (·.1)) ∧ (∀ y ∈ ys, ∃ t, y.1 = .ref t ∧ SqT K (hide [P] H1) t (y.2.map V.str)) ∧ TabQ H1 H1 P q ∧
  ∀ c' H2, LamOut H1 H2 P c' q → H2 c' = some (LamX.CodeO c' q) → ∀ p, H2 p = none → Q (.ref p) (upd H2 p (.lst ((ys.mergeSort (dataLe false fun y => keyD y.2)).map (·.1))))
theorem sqt_lam {K : PySem.W.Frag} {H H2 : Hp} {P c' : Addr} {q : Str} {a : Addr} {xs : List V} (o : LamOut H H2 P c' q) (h : SqT K H a xs) : SqT K H2 a xs := by
  rcases o with rfl | ⟨ps, more, hP, hc, rfl, _⟩
  · exact h
  have key : ∀ u, H a = some u → (∀ qs, u ≠ .tbl qs) → upd (upd H P (.tbl (ps ++ more))) c' (LamX.CodeO c' q) a = some u := fun u e n => by
    rw [upd_ne (fun z => by rw [z, hc] at e; cases e), upd_ne (fun z => by rw [z, hP] at e; exact n _ (Option.some.inj e).symm)]
    exact e
  rcases h with (h | ⟨ob, h⟩) | h
  · exact .inl (.inl (key _ h fun _ z => nomatch z))
  · exact .inl (.inr ⟨ob, key _ h fun _ z => nomatch z⟩)
  · exact .inr h
section
variable {X : Cx}
theorem pe_sortLamT {e : Expr} {te : TE} {x : Str} {c P : Addr} {p lpos pos kpos ap p1 p2 p3 p4 p5 : Pos} {k5 : Nat} {j : Nat} (hr : Room j X.A) (hg : Gl X "sorted") (hm : X.mg "sorted" = none) (hm2 : X.mg "len" = none) (TB : LamX.TabB X.base X.mg c P) (hcode : X.env.code = .ref c) (ha : PA X [e] (tCons te tNil)) (hx : x ≠ "__debug__" ∧ x ≠ "len")
    (hcl : cloFrom X.env.cells (lamS x).names [] = [])
    (hb : ∀ (q : Str) (pm cv ctv v : Value), bindArgs (PySem.W.kla_fn "<lambda>" q (lam1 x ap) (.Tuple [.Call (.Name "len" p1) [.Name x p2] [] p3, .Name x p4] k5 p5) (lamS x) [] pm cv ctv) ⟨[v], []⟩ = pure [(x, v)])
    (ne : backTo pos (starEach [e] X.env) = (false, eval e X.env) :: backTo pos (starEach [] X.env) := by rfl) (hpl : (backTo pos (starEach [e] X.env)).any (·.1) = false := by rfl)
    (hall : (backToKw pos (keywordEach [⟨some "key", .Lambda (lam1 x ap) (.Tuple [.Call (.Name "len" p1) [.Name x p2] [] p3, .Name x p4] k5 p5) (lamS x) lpos, kpos⟩] X.env)).all (·.1.isSome) = true := by rfl)
    (hnone : (backToKw pos (keywordEach [⟨some "key", .Lambda (lam1 x ap) (.Tuple [.Call (.Name "len" p1) [.Name x p2] [] p3, .Name x p4] k5 p5) (lamS x) lpos, kpos⟩] X.env)).any (·.1.isNone) = false := by rfl)
    (hks : (backToKw pos (keywordEach [⟨some "key", .Lambda (lam1 x ap) (.Tuple [.Call (.Name "len" p1) [.Name x p2] [] p3, .Name x p4] k5 p5) (lamS x) lpos, kpos⟩] X.env)).filterMap (·.1) = [Str.ofString "key"] := by rfl)
    (hdf : defaultsOf (lam1 x ap) X.env = ([], []) := by rfl) :
    PE X (.Call (.Name "sorted" p) [e] [⟨some "key", .Lambda (lam1 x ap) (.Tuple [.Call (.Name "len" p1) [.Name x p2] [] p3, .Name x p4] k5 p5) (lamS x) lpos, kpos⟩] pos) (tSortLamT X.K P (X.env.qual ++ "<lambda>") te) := by
  refine ⟨fun pins s σ H Q I h => ?_⟩
  refine wpAny_Call_Name_kw (ld_blt I hg hm (show _ = some (.builtin "sorted") by decide +kernel) ?_)
  refine PyProof.Rows.callWith_kw (thn (ha.run pos pins s σ H (fun vs H1 => match vs with
    | [x] => ∃ (a : Addr) (ys : List (V × List Str)), x = .ref a ∧ SqT X.K H1 a (ys.map (·.1)) ∧ (∀ y ∈ ys, ∃ t, y.1 = .ref t ∧ SqT X.K (hide [P] H1) t (y.2.map V.str)) ∧ TabQ H1 H1 P (X.env.qual ++ "<lambda>") ∧
      ∀ c' H2, LamOut H1 H2 P c' (X.env.qual ++ "<lambda>") → H2 c' = some (LamX.CodeO c' (X.env.qual ++ "<lambda>")) → ∀ p, H2 p = none → Q (.ref p) (upd H2 p (.lst ((ys.mergeSort (dataLe false fun y => keyD y.2)).map (·.1))))
    | _ => False) I h) fun us s1 ⟨vs, H1, I1, r1, q0⟩ => ?_) ne hpl hall hnone
  obtain ⟨x0, rfl⟩ : ∃ x, vs = [x] := by
    match vs, q0 with
    | [x], _ => exact ⟨x, rfl⟩
  obtain ⟨a, ys, ex, hs, hy, hT, q⟩ := q0
  subst ex
  cases r1 with
  | cons r rr =>
    cases rr
    cases r
    show wpAny _ _ (evalAll ((do let v ← eval (.Lambda (lam1 x ap) (.Tuple [.Call (.Name "len" p1) [.Name x p2] [] p3, .Name x p4] k5 p5) (lamS x) lpos) X.env; standAt pos; pure v) :: (backToKw pos (keywordEach [] X.env)).map (·.2))) _ _ s1
    refine wpAny_evalAll_cons (wpAny_bind (lam_new I1 TB hcode hT hdf ?_ fun f c' pm ctv H2 s2 I2 out_ hf hfn hfr hco => wpAny_bind (wpAny_standAt (wpAny_pure ?_))))
    · intro y hy e
      simp only [lamS, List.mem_cons, List.not_mem_nil, or_false] at hy
      rcases hy with z | z <;> (rw [z] at e; cases e)
    refine wpAny_evalAll_nil ?_
    rw [hks]
    have x12 := out_.ex
    obtain ⟨its, rv, pl, hz⟩ := I2.tuple (sqt_lam out_ hs)
    obtain ⟨zs, e1, pr⟩ := vals_rows rv
    have sz : zs.length = ys.length := (paired_len pr).symm
    have hzl : zs.length ≤ sizeLine := by rw [sz]; rw [List.length_map] at hz; exact hz
    have n63 := line63
    have hun := hr.un
    refine sorted_keyT (s := s2) (vs := its) (bs := zs) (R := fun v (b : Value × List Str) => v = b.1) (fun b => keyD b.2) pl (by rw [e1]; exact fstV_each zs) (PySem.W.AllAlike.of fun a b => key_alike _ _) (PySem.W.Sortable.tuples fun a => ⟨_, _, rfl⟩) hzl (fun b _ => ?_)
      (PyProof.Rows.ksk_s1 _ _) (fun _ => PyProof.Rows.ksk_l1 _ _) (fun x => PyProof.Rows.ksk_t1 _ x) (fun v b hv hb' h tk kp => ?_) fun g out c h' tk kg kg' ho hlo eo => ?_
    · have : (keyD b.2).depth ≤ 8 := by
        unfold keyD
        simp only [PyData.depth, PyData.depthAll, depth_row]
        decide
      omega
    · subst hv
      obtain ⟨y, hym, ry, ly⟩ := pair_mem pr b hb'
      obtain ⟨t, et, ht⟩ := hy y hym
      rw [et] at ry
      have ry : b.1 = Value.ref t := ry
      have ht2 := ex_t x12 ht
      obtain ⟨its2, r2, pt, hz2⟩ := I2.tuple ht2
      have tx := inv_tx I2 ht2
      have l2 := r2.length
      rw [List.length_map] at l2
      rw [← ly, ry]
      rw [hcl] at hf
      obtain ⟨⟨oc, vs, t0, hoc, hdc, hvc⟩, _, _⟩ := I2.hok c' _ hco
      obtain ⟨mb, hb1, hb2⟩ := I2.mod.blt
      refine wpAny_call (codeAny_mono (R := fun r s' => ∃ v, r = .ok (.ret v) ∧ KeyPure (keyD y.2) { s2 with heap := h, toks := tk } v s') ?_ fun r s' ⟨v, er, kp⟩ => by subst er; exact kp)
      refine PySem.W.kla_callFunE (by have := hr.dp; show X.A.depth < _; omega) (kp _ _ hf) rfl rfl rfl rfl ⟨c', oc, vs, t0, rfl, kp _ _ hoc, hdc, hvc⟩ ?_
      rw [hb]
      refine wpAny_pure (wpAny_newFunctionEnv ?_ ?_ (fun h₁ hns hsb => ⟨(I2.nolimit.keeps kp).fresh _ hsb, ?_⟩) rfl)
      · intro y hy
        simp only [lamS, List.mem_cons, List.not_mem_nil, or_false] at hy
        rcases hy with z | z <;> (rw [z]; exact fun e => nomatch e)
      · intro y hy
        rw [List.mem_singleton.mp hy]
        simp [lamS, List.lookup]
      · show codeAny _ _ (.expr _ (PySem.W.envX (X.env.qual ++ "<lambda>") (lamS x) h.objs.size f (.ref c') [])) _ _
        have k1 : ∀ b o, h.get? b = some o → h₁.get? b = some o := fun b o e => hsb.extBut b o (Nat.ne_of_lt (Heap.lt_size e)) (Heap.get?_push_of_some _ e)
        have k2 : ∀ b o, s2.heap.get? b = some o → h₁.get? b = some o := fun b o e => k1 b o (kp b o e)
        have pt2 : IsTup h₁ t its2.toArray := by
          obtain ⟨o, ho, hc, n, hd⟩ := pt
          exact ⟨o, k2 _ _ ho, hc, n, hd⟩
        refine PySem.W.kla_codeExpr (lam_body (mg := X.mg) (mb := mb) (t := t) (its := its2.toArray) hns (by simp [List.lookup]) ((I2.mod.glob.keeps I2.bk).keeps k2) hm2 ((hb1.keeps I2.bk).keeps k2) ((hb2 "len" (by decide)).trans PySem.boot_len) pt2 (by rw [List.size_toArray]; rw [List.length_map] at hz2; omega) hx fun tk2 => ?_)
        refine ⟨_, rfl, _, _, rfl, fun b o e => Heap.get?_push_of_some _ (k1 b o e), ?_⟩
        have e3 : (its2.toArray.size : Int) = ((y.2.length : Nat) : Int) := by rw [List.size_toArray, ← l2]
        unfold keyD
        rw [e3]
        exact .tuple (Heap.get?_push_size _ rfl) rfl rfl (.cons (.int _ _) (.cons (tx_reads (tx_keep tx fun c u e => Heap.get?_push_of_some _ (k2 c u e))) .nil))
    · have e2 := each_fstV eo
      have hv : Vals ((ys.mergeSort (dataLe false fun y => keyD y.2)).map (·.1)) out := by rw [e2]; exact rows_vals pr
      have I3 : Inv X pins σ H2 { s2 with heap := g } := I2.kept (t' := s2.toks) kg
      have hn : H2 g.objs.size = none := I3.hok.fresh (Nat.le_refl _)
      have hlen : ((ys.mergeSort (dataLe false fun y => keyD y.2)).map (·.1)).length ≤ sizeLine := by
        rw [List.length_map, List.length_mergeSort, ← sz]; exact hzl
      exact ⟨.ref _, _, I3.laid (t' := tk) (o := .lst _) kg' (Nat.le_refl _) ⟨hlen, out, c, hv, ho⟩, rfl, q c' H2 out_ hco _ hn⟩
end

theorem x_sortLamT {C : Cfg} {M : List Addr} {δ : List Ent} {μ μ1 : Mem} {P : Addr} {q : Str} {ta : TE} {rs : List (List Str)} (h : EvX C ta M δ μ μ1 (.d (.tuple (rs.map rowD)))) (hP : (P, .tb q) ∈ μ1) : EvX C (tSortLamT C.K P q ta) M δ μ μ1 (.d (.list ((kOrd rs).map rowD))) := fun σ H o Q k =>
  h σ H o _ fun v H1 o1 x1 r1 => by
    obtain ⟨a, vs, e1, e2, e3⟩ := Dp.tup_of r1
    obtain ⟨ks, e4, e5, e6⟩ := rows_dp e3
    have hT := o1.tabQ hP
    obtain ⟨ps, tP, _, _⟩ := id hT
    have pM : P ∈ M := (o1.mem _ hP).1
    have x2 : Ex (hide M H1) (hide [P] H1) := hide_sub fun b hb => by rw [List.mem_singleton.mp hb]; exact pM
    refine ⟨a, ks.map fun q => (V.ref q.1, q.2), e1, ?_, ?_, hT, fun c' H2 out hco p hp => ?_⟩
    · have : (ks.map fun q => (V.ref q.1, q.2)).map (·.1) = vs := by rw [e4, List.map_map]; rfl
      rw [this]
      exact ex_t hide_le e2
    · intro y hy
      obtain ⟨q, hq, rfl⟩ := List.mem_map.mp hy
      exact ⟨q.1, rfl, ex_t x2 (e6 q hq)⟩
    · obtain ⟨o2, x3⟩ := o1.lam hP out
      have s1 : ((ks.map fun q => (V.ref q.1, q.2)).mergeSort (dataLe false fun y : V × List Str => keyD y.2)).map (·.1) = (ks.mergeSort (dataLe false fun q : Addr × List Str => keyD q.2)).map fun q => V.ref q.1 := by
        rw [← List.map_mergeSort (r := dataLe false fun q : Addr × List Str => keyD q.2), List.map_map]
        · rfl
        · intro a _ b _; rfl
      have s2 : (ks.mergeSort (dataLe false fun q : Addr × List Str => keyD q.2)).map (·.2) = kOrd rs := by
        unfold kOrd
        rw [← e5, List.map_mergeSort (r := dataLe false fun q : Addr × List Str => keyD q.2)]
        intro a _ b _; rfl
      rw [s1]
      have dp : DpAll C.K (hide M H2) ((ks.mergeSort (dataLe false fun q : Addr × List Str => keyD q.2)).map fun q => V.ref q.1) ((kOrd rs).map rowD) := by
        rw [← s2]
        exact dp_rows fun q hq => ex_t x3 (e6 q ((List.mergeSort_perm _ _).mem_iff.mp hq))
      obtain ⟨o3, x4, d3⟩ := o2.lst hp dp
      exact k _ _ o3 ((x1.trans x3).trans x4) d3
end FD
/-! sorted(xs), xs a list of rows, empty ones among them. -/
namespace FD
open PySem PySem.Spec L2 Evl PyProof.Rows PySem.W
def rSortedRw (K : PySem.W.Frag) : List V → Hp → VK → Prop := fun xs H Q => ∃ (a : Addr) (ks : Mbs), xs = [.ref a] ∧ SqL K H a (ks.map fun q => V.ref q.1) ∧ (∀ q ∈ ks, SqT K H q.1 (q.2.map V.str)) ∧
  ∀ p, H p = none → Q (.ref p) (upd H p (.lst ((ks.mergeSort (dataLe false fun q : Addr × List Str => rowD q.2)).map fun q => V.ref q.1)))
section
variable {X : Cx}
theorem cr_sortedRw (hu : X.A.units + 64 < cLine) : CallR X (.builtin "sorted") (rSortedRw X.K) := by
  intro pins s σ H vs us Q I r h
  obtain ⟨a, ks, rfl, hs, ht, q⟩ := h
  obtain ⟨its, rv, hl, hz⟩ := I.list hs
  obtain ⟨u, rfl, ru⟩ := vals1 r
  obtain rfl : u = Value.ref a := ru
  have ei := refs_vals rv
  subst ei
  have tp : ∀ q ∈ ks, Tx X.prog X.w s.heap q.2 q.1 := fun q hq => inv_tx I (ht q hq)
  have tp2 : ∀ q ∈ ks, Tx X.prog X.w (sortingHeap (copyHeap s.heap (refsOf ks)) (s.heap.objs.size + 1) (refsOf ks)) q.2 q.1 := fun q hq => tx_keep (tp q hq) fun c u e => sorting_copy_old e
  rw [List.length_map] at hz
  have hL : (refsOf ks).length ≤ sizeLine := by unfold refsOf; rw [List.length_map]; exact hz
  refine sorted_vals (κ := dataKind (sortingHeap (copyHeap s.heap (refsOf ks)) (s.heap.objs.size + 1) (refsOf ks)) (ks.map fun q => rowD q.2)) hl.isList (rows_sort (s := { s with heap := sortingHeap (copyHeap s.heap (refsOf ks)) (s.heap.objs.size + 1) (refsOf ks) }) tp2 (by show X.A.units + 1 + 1 + 1 < cLine; omega)) hL ?_
  have eo := each_refs (sortVals_data false (refs_each ks) (rows_each2 tp2) (rows_alike ks))
  rw [eo]
  obtain ⟨n, hat⟩ := sortedAll_at s.heap (refsOf ks) (refsOf (ks.mergeSort (dataLe false fun q : Addr × List Str => rowD q.2))).toArray
  have fr : H (s.heap.objs.size + 1) = none := I.hok.fresh (Nat.le_succ _)
  refine ⟨.ref (s.heap.objs.size + 1), _, I.laid (t' := s.toks) (o := .lst ((ks.mergeSort (dataLe false fun q : Addr × List Str => rowD q.2)).map fun q => V.ref q.1)) (fun b o z => sortedAll_old z) (Nat.le_succ _) ⟨?_, _, n, vals_refs _, hat⟩, rfl, q _ fr⟩
  rw [List.length_map, List.length_mergeSort]
  exact hz
end
section
variable {C : Cfg} {M : List Addr} {δ : List Ent} {μ : Mem} {e : Ent}
theorem c_sortedRw {rs : List (List Str)} (r : Rdd μ e (.list (rs.map rowD))) : CallX C (rSortedRw C.K) M δ μ μ [e] (.d (.list ((rs.mergeSort leR).map rowD))) := fun σ H vs o h Q kk => by
  obtain ⟨v, rfl, q⟩ := p1 h
  obtain ⟨a, ws, q1, q2, q3⟩ := r.lst o q
  obtain ⟨ks, e4, e5, e6⟩ := rows_dp q3
  subst e4
  refine ⟨a, ks, by rw [q1], q2, fun q hq => ex_t hide_le (e6 q hq), fun p hn => ?_⟩
  have es : (ks.mergeSort (dataLe false fun q : Addr × List Str => rowD q.2)).map (·.2) = rs.mergeSort leR := by
    rw [← e5, List.map_mergeSort (r := dataLe false fun q : Addr × List Str => rowD q.2)]
    intro a _ b _; rfl
  have dp : DpAll C.K (hide M H) ((ks.mergeSort (dataLe false fun q : Addr × List Str => rowD q.2)).map fun q => V.ref q.1) ((rs.mergeSort leR).map rowD) := by
    rw [← es]
    exact dp_rows fun q hq => e6 q ((List.mergeSort_perm _ _).mem_iff.mp hq)
  obtain ⟨o', x', d'⟩ := o.lst hn dp
  exact kk _ _ o' x' d'
end
end FD
/-! f(lambda: ..), f a def that calls what it got and may take what the call lets out. -/
namespace FD
open PySem PySem.Spec L2 Evl PyProof.Rows
open LamX (LamS TabB lamEnv lamCx CodeO lam_start2)
section
variable {X : Cx} {pins : List (Addr × Obj)} {σ : L2.St} {H : Hp} {s : Shared}
/-- the call of the lambda, in the def that got it; what it lets out is told of the state there -/
theorem pe_actS {CXg : CXT} {Eg : XK} {Ng : List Str} {qg : Str} {sg : Scope} {g f c' : Addr} {cdg pm ctv : Value} {params : Arguments} {body : Expr} {scope : Scope} {k i : Nat} {a : Str} {pn : List (Addr × Obj)} {xe : Value → Shared → Prop} {W : WX} {tb : XK → TE} {p1 p2 : Pos}
    (I : Inv X pins σ H s) (L : LamS X.env.scope scope) (of : s.heap.get? f = some (PySem.W.kla_obj "<lambda>" (X.env.qual ++ "<lambda>") params body scope (cloFrom X.env.cells scope.names []) pm c' ctv)) (nf : H f = none) (ff : f ∉ frs X.stack)
    (bnd : bindArgs (PySem.W.kla_fn "<lambda>" (X.env.qual ++ "<lambda>") params body scope (cloFrom X.env.cells scope.names []) pm (.ref c') ctv) ⟨[], []⟩ = pure [])
    (tk : Takes ((cxOf CXg X.prog X.w X.K X.mg X.base Ng qg sg g cdg X.A X.stack s H Eg).tr pn xe) W) (hr : Room (k + 1) (X.A.deeper (envOfC qg sg s.heap.objs.size g cdg)))
    (bd : ∀ (A : Around) (outer : List Env) (s : Shared) (H : Hp) (E : XK), Room k (A.deeper (lamEnv X scope s.heap.objs.size f c')) → PE (lamCx X A outer s H E scope f c') body (tb E))
    (hN : Ng[i]? = some a) (hv : Vis sg a) (hd : (a == ("__debug__" : Str)) = false := by decide) (hcd : (a == ("__classdict__" : Str)) = false := by decide) :
    PE ((cxOf CXg X.prog X.w X.K X.mg X.base Ng qg sg g cdg X.A X.stack s H Eg).tr pn xe) (.Call (.Name a p1) [] [] p2)
      (fun σZ HZ Q => σZ[i]? = some (some (.ref f)) ∧ HZ c' = some (CodeO c' (X.env.qual ++ "<lambda>")) ∧ tb (WE W σZ) σ HZ Q) := by
  constructor
  rintro pinsZ sZ σZ HZ Q IZ ⟨slot, code, told⟩
  have look := (pe_var (pos := p1) (i := i) hN hv hd hcd).run pinsZ sZ σZ HZ (fun v H1 => v = .ref f ∧ H1 = HZ) IZ ⟨.ref f, slot, rfl, rfl⟩
  refine wpAny_Call_Name_kw (thn look fun u s1 hu => ?_)
  obtain ⟨v, H1, I1, r1, ev, eH⟩ := hu
  cases ev
  rw [eH] at I1
  obtain rfl : u = Value.ref f := r1
  have of1 := I1.base.keep f _ of nf ff (fun z => nomatch (show f ∈ ([] : List Addr) from z))
  have un : Un (frs X.stack) [] H HZ s.heap s1.heap := I1.base
  refine PySem.W.callWith_F0 ⟨_, _, _, _, of1⟩ ?_
  obtain ⟨⟨oc, vs, t, hoc, hdc, hvc⟩, _, _⟩ := I1.hok c' _ code
  have run : codeAny (model X.prog X.w) (X.A.deeper (envOfC qg sg s.heap.objs.size g cdg)) (.call (.ref f) ⟨[], []⟩) (CR (L2.CX X.prog X.w) (envOfC qg sg s.heap.objs.size g cdg :: X.stack) X.prog X.w HZ s1 Q (WE W σZ)) s1 := by
    refine PySem.W.kla_callFunE hr.depth of1 rfl L.co L.gen rfl ⟨c', oc, vs, t, rfl, hoc, hdc, hvc⟩ ?_
    rw [bnd]
    refine wpAny_pure (wpAny_newFunctionEnv (fun y hy => (L.own y hy).2) (fun y hy => absurd hy (by simp)) (fun h₁ hns hsb => ⟨I1.nolimit.fresh _ hsb, ?_⟩) L.kind)
    have grown : ∀ b o, s1.heap.get? b = some o → h₁.get? b = some o := fun b o e => hsb.extBut b o (Nat.ne_of_lt (Heap.lt_size e)) (Heap.get?_push_of_some _ e)
    have J := lam_start2 (A := X.A.deeper (envOfC qg sg s.heap.objs.size g cdg)) (outer := envOfC qg sg s.heap.objs.size g cdg :: X.stack) (E := WE W σZ) (f := f) (c' := c') (tk := s1.toks + ([] : List (Str × Value)).length) I L I1.env0 hr.hd un hns grown
    have go := (bd _ _ s1 HZ (WE W σZ) (hr.deeper _)).run [] _ _ HZ Q J told
    show codeAny _ _ (.expr body (lamEnv X scope s1.heap.objs.size f c')) _ _
    refine PySem.W.kla_codeExpr (wpAny_mono go (fun v s' hq => ?_) fun e s' hq => hq)
    obtain ⟨w', H', J', rv, q⟩ := hq
    exact ⟨w', H', J'.os, J'.bare, J'.base, J'.hok, rv, q⟩
  refine wpAny_call (codeAny_mono run fun r s' hq => ?_)
  match r, hq with
  | .error e, hq => exact passAt tk σZ pinsZ HZ s1 e s' I1 hq
  | .ok (.ret u), hq => exact I1.after hq
  | .ok .next, hq => exact False.elim hq
  | .ok .brk, hq => exact False.elim hq
  | .ok .cont, hq => exact False.elim hq
/-- the def with the body bg, given a lambda; TT: what it makes of the lambda's reading -/
def GivesS (X : Cx) (Ng : List Str) (x : Str) (sg : Scope) (g : Addr) (cdg : Value) (bg : List Stmt) (a : Str) (q : Str) (TT : (XK → Hp → VK → Prop) → Hp → VK → Prop) : Prop :=
  ∀ (f c' : Addr) (s : Shared) (H : Hp) (Q : VK) (tl : XK → Hp → VK → Prop), Room 1 (X.A.deeper (envOfC x sg s.heap.objs.size g cdg)) →
    (∀ (W : WX) (pn : List (Addr × Obj)) (xe : Value → Shared → Prop) (p1 p2 : Pos), Takes ((cxOf CX0 X.prog X.w X.K X.mg X.base Ng x sg g cdg X.A X.stack s H E0).tr pn xe) W →
      PE ((cxOf CX0 X.prog X.w X.K X.mg X.base Ng x sg g cdg X.A X.stack s H E0).tr pn xe) (.Call (.Name a p1) [] [] p2) (fun σZ HZ Q => σZ[0]? = some (some (.ref f)) ∧ HZ c' = some (CodeO c' q) ∧ tl (WE W σZ) HZ Q)) →
    H c' = some (CodeO c' q) → TT tl H Q →
    ∃ t, PSs (cxOf CX0 X.prog X.w X.K X.mg X.base Ng x sg g cdg X.A X.stack s H E0).nox bg t ∧ t { nx := fun _ H' => Q .non H', rt := Q } (L2.start Ng [.ref f]) H
def tLamQ (P : Addr) (q : Str) (TT : (XK → Hp → VK → Prop) → Hp → VK → Prop) (t : XK → TE) : TE := fun σ H Q => TabQ H H P q ∧ ∀ H1 c', LamOut H H1 P c' q → H1 c' = some (CodeO c' q) → TT (fun E H' Q' => t E σ H' Q') H1 Q
/-- x(lambda: body) -/
theorem pe_lamQ {TT : (XK → Hp → VK → Prop) → Hp → VK → Prop} {x a : Str} {st : Stmt} {g c P : Addr} {fd : FuncData} {k : Nat} {Ng : List Str} {params : Arguments} {body : Expr} {scope : Scope} {t : XK → TE} {p lpos pos : Pos} (F : Fun X.K x x st g fd) (hg : Gl X x) (hm : X.mg x = some (.ref g)) (hb : L2.Binds X.K fd [a] []) (Sg : FnScope Ng [a] (defScope st)) (hNg : Ng[0]? = some a) (hva : Vis (defScope st) a)
    (hG : ∀ cdv, GivesS X Ng x (defScope st) g cdv (defBody st) a (X.env.qual ++ "<lambda>") TT) (TB : TabB X.base X.mg c P) (hcode : X.env.code = .ref c) (hr : Room (k + 2) X.A) (L : LamS X.env.scope scope) (hdef : defaultsOf params X.env = ([], []))
    (hbind : ∀ (q : Str) (cl : List (Str × Addr)) (pm cv ctv : Value), bindArgs (PySem.W.kla_fn "<lambda>" q params body scope cl pm cv ctv) ⟨[], []⟩ = pure [])
    (hbody : ∀ (A : Around) (outer : List Env) (s : Shared) (H : Hp) (E : XK) (f c' : Addr), Room k (A.deeper (lamEnv X scope s.heap.objs.size f c')) → PE (lamCx X A outer s H E scope f c') body (t E))
    (hdb : (x == ("__debug__" : Str)) = false := by decide) (hd : (a == ("__debug__" : Str)) = false := by decide) (hcd : (a == ("__classdict__" : Str)) = false := by decide) :
    PE X (.Call (.Name x p) [.Lambda params body scope lpos] [] pos) (tLamQ P (X.env.qual ++ "<lambda>") TT t) := by
  constructor
  rintro pins s σ H Q I ⟨hT, hh⟩
  obtain ⟨oc, od, kV, doc, pm, an, cdv, ct, osl, e, lk, hcg⟩ := F.ex
  subst e
  refine wpAny_Call_Name_kw (ld_glob I hg hm ?_ hdb)
  refine PySem.W.callWith_K (h₀ := X.base) I.ok.mod.kin F.kp ?_ (by rfl) (by rfl)
  show wpAny _ _ (spliced ((false, eval (.Lambda params body scope lpos) X.env) :: backTo pos (starEach [] X.env))) _ _ s
  refine Calls.spliced_cons (lam_new I TB hcode hT hdef (L.has I.ok) fun f c' pm' ctv H1 s' I1 lo hf hfn hfr hco => ?_)
  refine Calls.spliced_nil ⟨I1.kIn, ?_⟩
  have run : codeAny (model X.prog X.w) X.A (.call (.ref g) ⟨[.ref f], []⟩) (CR CX0 X.stack X.prog X.w H1 s' Q E0) s' := by
    refine LamX.run_ofS (N := Ng) (ps := [a]) (us := [.ref f]) (vs := [.ref f]) lk hcg Sg hr I1.env0 (hb s' [.ref f] I1.kIn rfl) (.cons rfl .nil) rfl fun hr' => ?_
    obtain ⟨t', ht', hq'⟩ := hG cdv f c' s' H1 Q (fun E H' Q' => t E σ H' Q') (hr'.mono (by omega)) (fun W pn xe p1 p2 tk => pe_actS (i := 0) I1 L hf hfn hfr (hbind _ _ _ _ _) tk hr' (fun A outer s H E hr2 => hbody A outer s H E f c' hr2) hNg hva hd hcd) hco (hh H1 c' lo hco)
    exact ⟨t', ht'.nox, hq'⟩
  refine wpAny_call (codeAny_mono run fun r s2 hq => ?_)
  match r, hq with
  | .error e, hq => exact (show False from hq).elim
  | .ok (.ret u), hq => exact I1.after hq
  | .ok .next, hq => exact False.elim hq
  | .ok .brk, hq => exact False.elim hq
  | .ok .cont, hq => exact False.elim hq
end
end FD
namespace FD
open PySem L2 Evl
section
variable {X : Cx} {K : PySem.W.Frag}
theorem kpi_tup {tg e : Expr} {te : TE} (h : X.K = K) (he : PE X e te) : PI X tg e (iTup K te) := h ▸ pi_tup he
end
theorem eqv_str (i j : Str) : PyData.eqv (.str i) (.str j) = (i == j) := by simp [PyData.eqv]
theorem o_notInT {C : Cfg} {M : List Addr} {δ : List Ent} {μ : Mem} {z : Str} {zs : List Str} : OpX C (rIn C.K true) M δ μ μ (.d (.str z)) (.d (.tuple (zs.map .str))) (.d (.bool (!decide (z ∈ zs)))) := fun σ H u v o h1 h2 Q k => by
  obtain ⟨p, ws, q1, q2, q3⟩ := Dp.tup_of h2
  have e3 := DpAll.strs q3
  subst e3
  refine ⟨p, zs.map V.str, q1, .inr (ex_t hide_le q2), by rw [Dp.str_of h1]; rfl, flat_strs zs, ?_⟩
  rw [Dp.str_of h1, if_pos rfl, inV_strs]
  exact k _ H o (Ex.refl _) (.bl _)
end FD
namespace K02
open PySem L2 FD
open K83 (fit fit_snoc fitStep fit_le eat_fit)
def top (i : Nat) : Stmt := PySem.Challenge.pw_stillowed_k02_whole_common_rows.main.body.getD i (.Pass ⟨0, 0, 0, 0⟩)
abbrev sIo : Stmt := top 5
abbrev sFf : Stmt := top 6
abbrev sWi : Stmt := top 7
abbrev sGr : Stmt := top 8
abbrev sPb : Stmt := top 9
abbrev sCb : Stmt := top 10
abbrev sCa : Stmt := top 11
abbrev sCo : Stmt := top 12
abbrev sBx : Stmt := top 14
abbrev sTk : Stmt := top 15
abbrev sPk : Stmt := top 16
abbrev sLe : Stmt := top 17
abbrev sNa : Stmt := top 18
abbrev sRo : Stmt := top 19
abbrev sCh : Stmt := top 20
abbrev sLi : Stmt := top 21
abbrev sIa : Stmt := top 22
abbrev sSa : Stmt := top 23
abbrev sRi : Stmt := top 24
abbrev sSd : Stmt := top 25
abbrev sBd : Stmt := top 26
abbrev sXr : Stmt := top 27
abbrev sLw : Stmt := top 28
structure Txt (mg : Str → Option Value) : Prop where
  abs : mg "abs" = none
  all : mg "all" = none
  any : mg "any" = none
  enumerate : mg "enumerate" = none
  int : mg "int" = none
  isinstance : mg "isinstance" = none
  len : mg "len" = none
  list : mg "list" = none
  range : mg "range" = none
  set : mg "set" = none
  sorted : mg "sorted" = none
  tuple : mg "tuple" = none
  zip : mg "zip" = none
  ValueError : mg "ValueError" = none
  lc : ∃ t, mg "LONGEST_COMMON" = some (.int 12 t)
structure Has (K : PySem.W.Frag) (mg : Str → Option Value) (x : Str) (st : Stmt) (ps : List Str) (f : Addr) (fd : FuncData) : Prop where
  F : Fun K x x st f fd
  b : Binds K fd ps []
  m : mg x = some (.ref f)
/-! ### texts -/
def tok (x : Str) : Prop := PyData.canLay0 (.str x) = true
def Good (r : List Str) : Prop := ∀ x ∈ r, tok x
theorem shp_str (n : Nat) {x : Str} (h : tok x) : Shp n (.str x) := ⟨h, by simp [PyData.depth]⟩
theorem sh_str {x : Str} (h : tok x) : SeqAt.shaped (.str x) = true := (shp_str 0 h).shaped (by decide)
def ts (r : List Str) : PyData := .tuple (r.map .str)
theorem shp_ts (n : Nat) {r : List Str} (h : Good r) : Shp (n + 1) (ts r) := shp_tuple fun d hd => by
  obtain ⟨x, hx, rfl⟩ := List.mem_map.mp hd
  exact shp_str n (h x hx)
theorem ts_get {r : List Str} {i : Nat} {x : Str} (h : r[i]? = some x) : (r.map PyData.str)[i]? = some (.str x) := by rw [List.getElem?_map, h]; rfl
theorem ts_back {r : List Str} {i : Nat} {d : PyData} (h : (r.map PyData.str)[i]? = some d) : ∃ x, r[i]? = some x ∧ d = .str x := by
  rw [List.getElem?_map] at h
  cases e : r[i]? with
  | none => rw [e] at h; cases h
  | some x => rw [e] at h; exact ⟨x, rfl, (Option.some.inj h).symm⟩
theorem good_at {r : List Str} (h : Good r) {i : Nat} {x : Str} (e : r[i]? = some x) : tok x := h x (List.mem_of_getElem? e)
theorem take_succ' {α : Type} {l : List α} {i : Nat} {x : α} (h : l[i]? = some x) : l.take (i + 1) = l.take i ++ [x] := by rw [List.take_add_one, h]; rfl
def ffTake (u v : List Str) : Nat → List Nat
  | 0 => []
  | i + 1 => if u[(ffTake u v i).length]? = v[i]? then ffTake u v i ++ [i] else ffTake u v i
theorem ff_fit (u v : List Str) : ∀ i, i ≤ v.length → (ffTake u v i).length = fit u 0 (v.take i)
  | 0, _ => rfl
  | i + 1, h => by
    have e : v[i]? = some v[i] := List.getElem?_eq_getElem (by omega)
    have ih := ff_fit u v i (by omega)
    rw [take_succ' e, fit_snoc, ← ih]
    show (if u[(ffTake u v i).length]? = v[i]? then ffTake u v i ++ [i] else ffTake u v i).length = _
    rw [e]
    unfold K83.fitStep
    split <;> simp
theorem ff_len (u v : List Str) (i : Nat) : (ffTake u v i).length ≤ i := by
  induction i with
  | zero => exact Nat.le_refl _
  | succ i ih =>
    show (if u[(ffTake u v i).length]? = v[i]? then ffTake u v i ++ [i] else ffTake u v i).length ≤ _
    split
    · simp; exact ih
    · omega
theorem fit_sub (u v : List Str) : fit u 0 v = u.length ↔ u.Sublist v := by
  rw [← K83.eat_sub]
  have h := eat_fit u v 0
  rw [List.drop_zero] at h
  rw [h, List.drop_eq_nil_iff]
  have := (fit_le u v 0).2 (Nat.zero_le _)
  omega
def ffD (u v : List Str) : PyData := if (ffTake u v v.length).length = u.length then .tuple ((ffTake u v v.length).map fun (n : Nat) => PyData.int (n : Int)) else .none
theorem ffD_non (u v : List Str) : (!isNon (ffD u v)) = decide (u.Sublist v) := by
  have h := ff_fit u v v.length (Nat.le_refl _)
  rw [List.take_length] at h
  unfold ffD
  rw [h]
  by_cases q : u.Sublist v
  · rw [if_pos ((fit_sub u v).mpr q), decide_eq_true q]; rfl
  · rw [if_neg (fun z => q ((fit_sub u v).mp z)), decide_eq_false q]; rfl
section
variable {P : Program} {w : World} {K : PySem.W.Frag} {mg : Str → Option Value} {base : Heap}
/-! ### first_fit, within -/
def Rff (ds : List PyData) (d : PyData) : Prop := ∃ u v : List Str, ds = [ts u, ts v] ∧ Good u ∧ Good v ∧ u.length ≤ 1000 ∧ v.length ≤ 1000 ∧ d = ffD u v
def Rwi (ds : List PyData) (d : PyData) : Prop := ∃ u v : List Str, ds = [ts u, ts v] ∧ Good u ∧ Good v ∧ u.length ≤ 1000 ∧ v.length ≤ 1000 ∧ d = .bool (decide (u.Sublist v))
abbrev nFf : List Str := ["u", "v", "places", "at", "deed"]
theorem scFf : FnScope nFf ["u", "v"] (defScope sFf) := ⟨rfl, rfl, rfl, by decide +kernel, rfl, by decide +kernel, by decide +kernel⟩
theorem ok_ff {f : Addr} {fd : FuncData} (T : Txt mg) (F : Fun K "first_fit" "first_fit" sFf f fd) : FnOk P w K mg base CX0 1 f fd ["u", "v"] (spR K 2 Rff) := by
  refine def_R F scFf (by decide) fun cdv A outer s H E hr => ?_
  have nd := scFf.nd
  refine ⟨_, (pss_cons (ps_set (i := 2) nd rfl (Or.inl rfl) (pe_lst pa_nil))
 (pss_cons (ps_for PassesOwn.never rfl (pi_enumT (by rfl) T.enumerate (pa_cons (pv 1) pa_nil)) (pg_tup rfl (pgs_cons (pg_name (i := 3) nd rfl (Or.inl rfl)) (pgs_cons (pg_name (i := 4) nd rfl (Or.inl rfl)) pgs_nil))) (pss_one (ps_if (PW.pt (pw_and (pt_cmpR op_lt (pe_callB call_len_seq (by rfl) T.len PySem.boot_len (pa_cons (pv 2) pa_nil)) (pe_callB call_len_seq (by rfl) T.len PySem.boot_len (pa_cons (pv 0) pa_nil)) (nomark _)) (pw_and1 (pt_cmpR (op_eqD hr.units) (pe_ix ix_tup (pv 0) (pe_callB call_len_seq (by rfl) T.len PySem.boot_len (pa_cons (pv 2) pa_nil)) (fun _ _ => rfl)) (pv 4) (nomark _))))) (pss_one (ps_expr (pe_bm PySem.F.plainAttrs_list PySem.F.slot_list_append PySem.F.type_list_append mt_append (pv 2) (pa_cons (pv 3) pa_nil)))) pss_nil)))
 (pss_one (ps_ret (pe_ifExp (pt_cmpR (op_eqD hr.units) (pe_callB call_len_seq (by rfl) T.len PySem.boot_len (pa_cons (pv 2) pa_nil)) (pe_callB call_len_seq (by rfl) T.len PySem.boot_len (pa_cons (pv 0) pa_nil)) (nomark _)) (pe_callTy call_tuple_of (by rfl) T.tuple (by decide +kernel) (pa_cons (pv 2) pa_nil)) pe_non))))), ?_⟩
  rintro M G B ds d _ ⟨u, v, rfl, gu, gv, lu, lv, rfl⟩ D fin
  show Run _ _ D M [.d (ts u), .d (ts v), .u, .u, .u] []
  refine q_new (ds := []) a_nil (by simp) fun a ha => ?_
  refine q_for (i_enumT (a_cons (x_vd rfl) a_nil)) (fun i δ μ => ∃ e3 e4, δ = [.d (ts u), .d (ts v), .m a, e3, e4] ∧ μ = [(a, .lst ((ffTake u v i).map fun (n : Nat) => PyData.int (n : Int)))]) ⟨_, _, rfl, rfl⟩ ?_ ?_
  · rintro B' hB i d δ1 μ1 hi ⟨e3, e4, rfl, rfl⟩
    have hl := (List.getElem?_eq_some_iff.mp hi).1
    rw [enumD_length, List.length_map] at hl
    have ev : v[i]? = some v[i] := List.getElem?_eq_getElem hl
    rw [enumD_get (ts_get ev)] at hi
    cases hi
    refine ⟨[3, 4], _, tg_tup2, ?_⟩
    show Run _ _ _ _ [.d (ts u), .d (ts v), .m a, .d (.int (i : Int)), .d (.str v[i])] _
    have hlen : ((ffTake u v i).map fun (n : Nat) => PyData.int (n : Int)).length = (ffTake u v i).length := List.length_map ..
    have hle := ff_len u v i
    have nxt : ffTake u v (i + 1) = if u[(ffTake u v i).length]? = v[i]? then ffTake u v i ++ [i] else ffTake u v i := rfl
    rw [ev] at nxt
    refine r_if (b := decide (u[(ffTake u v i).length]? = some v[i])) (t_is (t_and (t_test (x_op (x_cbP (a_cons (x_vm rfl) a_nil) (c_lenL (.m (j := 0) rfl))) (x_cbP (a_cons (x_vd rfl) a_nil) c_lenT) o_B0)) (c := PyData.eqv (.str (u.getD (ffTake u v i).length "")) (.str v[i])) (fun hb => ?_) (fun _ => rfl)) ?_) (fun hb => ?_) fun hb => ?_
    · have hb := of_decide_eq_true hb
      rw [hlen, List.length_map] at hb
      have eu : u[(ffTake u v i).length]? = some (u.getD (ffTake u v i).length "") := by simp [show (ffTake u v i).length < u.length by omega]
      refine t_test (x_op (x_op (x_vd rfl) (x_cbP (a_cons (x_vm rfl) a_nil) (c_lenL (.m (j := 0) rfl))) (o_ixT (by rw [hlen]; exact atI_nat (ts_get eu)))) (x_vd rfl) (o_eqD (.d _) (.d _) (sh_str (good_at gu eu)) (sh_str (good_at gv ev))))
    · rw [hlen, List.length_map, eqv_str]
      by_cases q : (ffTake u v i).length < u.length
      · have eu : u[(ffTake u v i).length]? = some (u.getD (ffTake u v i).length "") := by simp [q]
        rw [decide_eq_true (by omega : ((ffTake u v i).length : Int) < (u.length : Int)), eu, Bool.true_and]
        by_cases z : u.getD (ffTake u v i).length "" = v[i]
        · rw [z]; simp
        · rw [decide_eq_false (fun y => z (Option.some.inj y))]
          exact beq_eq_false_iff_ne.mpr z
      · have eu : u[(ffTake u v i).length]? = none := List.getElem?_eq_none (by omega)
        rw [decide_eq_false (by omega : ¬ ((ffTake u v i).length : Int) < (u.length : Int)), eu]
        simp
    · rw [if_pos (of_decide_eq_true hb)] at nxt
      refine r_app (j := 0) (d := .int (i : Int)) (x_vm rfl) (x_vd rfl) rfl rfl (by rw [hlen]; omega) fun σ H o => ⟨_, _, ⟨_, _, rfl, ?_⟩, o⟩
      rw [nxt, List.map_append]; rfl
    · rw [if_neg (of_decide_eq_false hb)] at nxt
      exact r_next fun σ H o => ⟨_, _, ⟨_, _, rfl, by rw [nxt]⟩, o⟩
  · rintro δ1 μ1 ⟨e3, e4, rfl, rfl⟩
    rw [enumD_length, List.length_map]
    have hlen : ((ffTake u v v.length).map fun (n : Nat) => PyData.int (n : Int)).length = (ffTake u v v.length).length := List.length_map ..
    refine r_retP (x_is (x_if2 (t_test (x_op (x_cbP (a_cons (x_vm rfl) a_nil) (c_lenL (.m (j := 0) rfl))) (x_cbP (a_cons (x_vd rfl) a_nil) c_lenT) (o_eqD (.d _) (.d _) ((shp_int 0 _).shaped (by decide)) ((shp_int 0 _).shaped (by decide))))) (x_cbP (a_cons (x_vm rfl) a_nil) (c_tupleL (.m (j := 0) rfl))) x_non) ?_) fin
    rw [eqv_int, hlen, List.length_map]
    unfold ffD
    by_cases q : (ffTake u v v.length).length = u.length
    · rw [if_pos q, q]; simp
    · rw [if_neg q]
      have : (((ffTake u v v.length).length : Int) == (u.length : Int)) = false := beq_eq_false_iff_ne.mpr (by omega)
      rw [this]; rfl
abbrev nWi : List Str := ["u", "v"]
theorem scWi : FnScope nWi ["u", "v"] (defScope sWi) := ⟨rfl, rfl, rfl, by decide +kernel, rfl, by decide +kernel, by decide +kernel⟩
theorem ok_wi {f : Addr} {fd : FuncData} (T : Txt mg) (F : Fun K "within" "within" sWi f fd) {f1 : Addr} {fd1 : FuncData} (H1 : Has K mg "first_fit" sFf ["u", "v"] f1 fd1) : FnOk P w K mg base CX0 2 f fd ["u", "v"] (spR K 2 Rwi) := by
  have G1 : FnOk P w K mg base CX0 1 f1 fd1 ["u", "v"] (spR K 2 Rff) := ok_ff T H1.F
  refine def_R F scWi (by decide) fun cdv A outer s H E hr => ?_
  refine ⟨_, (pss_one (ps_ret (pe_cmpR op_notN (pe_call G1 hr rfl H1.m H1.F.kp H1.b .nil pass0 (pa_cons (pv 0) (pa_cons (pv 1) pa_nil))) pe_non (nomark _)))), ?_⟩
  rintro M G B ds d _ ⟨u, v, rfl, gu, gv, lu, lv, rfl⟩ D fin
  show Run _ _ D M [.d (ts u), .d (ts v)] []
  exact r_retP (x_is (x_op (x_callR (ds := [ts u, ts v]) (a_cons (x_vd rfl) (a_cons (x_vd rfl) a_nil)) ⟨u, v, rfl, gu, gv, lu, lv, rfl⟩) x_non o_notN) (by rw [ffD_non])) fin
end
end K02
namespace K02
open PySem L2 FD Evl
theorem rowD_ts (k : List Str) : rowD k = ts k := rfl
theorem range_getD {α : Type} (l : List α) (d : α) : (List.range l.length).map (fun i => l.getD i d) = l := by
  refine List.ext_getElem? fun i => ?_
  rw [List.getElem?_map]
  by_cases h : i < l.length
  · rw [List.getElem?_range h, List.getElem?_eq_getElem h]
    simp [h]
  · rw [List.getElem?_eq_none (by simp; omega), List.getElem?_eq_none (by omega)]
    rfl
theorem range_map {α β : Type} (l : List α) (d : α) (g : α → β) : (List.range l.length).map (fun i => g (l.getD i d)) = l.map g := by
  have := congrArg (List.map g) (range_getD l d)
  rw [List.map_map] at this
  exact this
theorem lcD_filter {α : Type} (l : List α) (d : α) (p : α → Bool) (g : α → PyData) : lcD (fun i => p (l.getD i d)) (fun i => g (l.getD i d)) l.length = (l.filter p).map g := by
  unfold lcD
  have h := congrArg (fun x => (List.filter p x).map g) (range_getD l d)
  rw [List.filter_map, List.map_map] at h
  exact h
theorem rows_get {l : List (List Str)} {i : Nat} {d : PyData} (h : (l.map rowD)[i]? = some d) : ∃ r, l[i]? = some r ∧ d = rowD r ∧ l.getD i [] = r := by
  rw [List.getElem?_map] at h
  cases e : l[i]? with
  | none => rw [e] at h; cases h
  | some r => rw [e] at h; exact ⟨r, rfl, (Option.some.inj h).symm, by rw [List.getD_eq_getElem?_getD, e]; rfl⟩
def upw (l : List (List Str)) (row : List Str) : Bool := !((l.filter fun o => decide (row.length < o.length)).map fun o => decide (row.Sublist o)).any id
def greatR (rs : List (List Str)) : List (List Str) := (ordT rs).filter (upw (ordT rs))
def Rio (es : List Ent) (μ : Mem) (d : PyData) (μ' : Mem) : Prop := ∃ (a : Addr) (rs : List (List Str)), es = [.m a] ∧ μ = [(a, .lst (rs.map rowD))] ∧ μ' = μ ∧ rs.length < 64 ∧ d = .tuple ((ordT rs).map rowD)
def RioP (es : List Ent) (μ : Mem) (e : Ent) (μ' : Mem) : Prop := ∃ rs : List (List Str), es = [.rw rs] ∧ μ = [] ∧ μ' = [] ∧ rs.length < 64 ∧ e = .rw (ordT rs)
def Rgr (es : List Ent) (μ : Mem) (d : PyData) (μ' : Mem) : Prop := ∃ (a : Addr) (rs : List (List Str)), es = [.m a] ∧ μ = [(a, .lst (rs.map rowD))] ∧ μ' = μ ∧ rs.length < 64 ∧ (∀ r ∈ rs, Good r ∧ r.length ≤ 1000) ∧ d = .tuple ((greatR rs).map rowD)
section
variable {P : Program} {w : World} {K : PySem.W.Frag} {mg : Str → Option Value} {base : Heap}
abbrev nIo : List Str := ["rows"]
theorem scIo : FnScope nIo ["rows"] (defScope sIo) := ⟨rfl, rfl, rfl, by decide +kernel, rfl, by decide +kernel, by decide +kernel⟩
theorem ok_io {f : Addr} {fd : FuncData} (T : Txt mg) (F : Fun K "in_order" "in_order" sIo f fd) : FnOk P w K mg base CX0 1 f fd ["rows"] (spE K 1 Rio) := by
  refine def_E F scIo (by decide) rfl fun cdv A outer s H E hr => ?_
  refine ⟨_, (pss_one (ps_ret (pe_callTy call_tuple_of (by rfl) T.tuple (by decide +kernel) (pa_cons (pe_sortLen hr.units (by rfl) T.sorted (by rfl) T.len (pa_cons (pe_STt rfl hr.units (by rfl) T.sorted (by rfl) T.set (pv 0)) pa_nil)) pa_nil)))), ?_⟩
  rintro M G B es μ d μ' ⟨a, rs, rfl, rfl, rfl, hl, rfl⟩ D fin
  show Run _ _ D M [.m a] [(a, .lst (rs.map rowD))]
  exact r_retE (x_inord (x_vm rfl) (.inl (.m (j := 0) rfl)) hl) (fun z hz => hz) fin
theorem ok_io2 {f : Addr} {fd : FuncData} (T : Txt mg) (F : Fun K "in_order" "in_order" sIo f fd) : FnOk P w K mg base CX0 1 f fd ["rows"] (spG K 1 RioP) := by
  refine def_G F scIo (by decide) rfl fun cdv A outer s H E hr => ?_
  refine ⟨_, (pss_one (ps_ret (pe_callTy call_tuple_of (by rfl) T.tuple (by decide +kernel) (pa_cons (pe_sortLen hr.units (by rfl) T.sorted (by rfl) T.len (pa_cons (pe_STt rfl hr.units (by rfl) T.sorted (by rfl) T.set (pv 0)) pa_nil)) pa_nil)))), ?_⟩
  rintro M G B es μ e μ' ⟨rs, rfl, rfl, rfl, hl, rfl⟩ D fin
  show Run _ _ D M [.rw rs] []
  exact r_retG (x_inordP (x_vrw rfl) hl) (fun z hz => hz) fin
abbrev nGr : List Str := ["rows", "unlike", "found", "row", "longer", "other"]
theorem scGr : FnScope nGr ["rows"] (defScope sGr) := ⟨rfl, rfl, rfl, by decide +kernel, rfl, by decide +kernel, by decide +kernel⟩
theorem ok_gr {f : Addr} {fd : FuncData} (T : Txt mg) (F : Fun K "greatest_rows" "greatest_rows" sGr f fd) {f1 f2 f3 : Addr} {fd1 fd2 fd3 : FuncData} (H1 : Has K mg "in_order" sIo ["rows"] f1 fd1) (H2 : Has K mg "within" sWi ["u", "v"] f2 fd2) (H3 : Has K mg "first_fit" sFf ["u", "v"] f3 fd3) :
    FnOk P w K mg base CX0 3 f fd ["rows"] (spE K 1 Rgr) := by
  have G1 : FnOk P w K mg base CX0 1 f1 fd1 ["rows"] (spE K 1 Rio) := ok_io T H1.F
  have G2 : FnOk P w K mg base CX0 2 f2 fd2 ["u", "v"] (spR K 2 Rwi) := ok_wi T H2.F H3
  refine def_E F scGr (by decide) rfl fun cdv A outer s H E hr => ?_
  have nd := scGr.nd
  refine ⟨_, (pss_cons (ps_set (i := 1) nd rfl (Or.inl rfl) (pe_call G1 (hr.mono (by decide)) rfl H1.m H1.F.kp H1.b .nil pass0 (pa_cons (pv 0) pa_nil)))
 (pss_cons (ps_set (i := 2) nd rfl (Or.inl rfl) (pe_lst pa_nil))
 (pss_cons (ps_for PassesOwn.never rfl (pi_tup (pv 1)) (pg_name (i := 3) nd rfl (Or.inr rfl)) (pss_cons (ps_setLc (i := 4) (own := [("other", 5)]) (g := (gName 5)) rfl nd rfl rfl (sw_true rfl rfl rfl (by decide +kernel)) (pi_tup (pv 1)) (blkOk_by (N := nGr) (sc := defScope sGr) (by decide +kernel)) (fun _ _ _ _ _ => (pg_name (i := 5) nd rfl (Or.inl rfl))) (fun _ _ _ _ _ => (pts_one (pt_cmpR op_gt (pe_callB (klen (K := K) rfl) (by rfl) T.len PySem.boot_len (pa_cons (pv 5) pa_nil)) (pe_callB (klen (K := K) rfl) (by rfl) T.len PySem.boot_len (pa_cons (pv 3) pa_nil)) (nomark _)))) (fun _ _ _ _ _ => (pv 5)))
 (pss_one (ps_if (pt_not (pt_val (pe_callB (cr_any rfl) (by rfl) T.any (by decide +kernel) (pa_cons (pe_lc (own := [("other", 5)]) (g := (gName 5)) (tt := tYes) rfl nd (pi_list (pv 4)) (blkOk_by (N := nGr) (sc := defScope sGr) (by decide +kernel)) (fun _ _ _ _ _ => (pg_name (i := 5) nd rfl (Or.inl rfl))) (fun _ _ _ _ _ => pts_nil) (fun _ _ _ _ _ => (pe_call G2 hr rfl H2.m H2.F.kp H2.b .nil pass0 (pa_cons (pv 3) (pa_cons (pv 5) pa_nil))))) pa_nil)))) (pss_one (ps_expr (pe_bm PySem.F.plainAttrs_list PySem.F.slot_list_append PySem.F.type_list_append mt_append (pv 2) (pa_cons (pv 3) pa_nil)))) pss_nil))))
 (pss_one (ps_ret (pe_callTy call_tuple_of (by rfl) T.tuple (by decide +kernel) (pa_cons (pv 2) pa_nil))))))), ?_⟩
  rintro M G B es μ d μ' ⟨a, rs, rfl, rfl, rfl, hl, hg, rfl⟩ D fin
  show Run _ _ D M [.m a, .u, .u, .u, .u, .u] [(a, .lst (rs.map rowD))]
  refine q_asg (x_callE1 (a_cons (x_vm rfl) a_nil) (List.mem_singleton.mpr rfl) ⟨a, rs, rfl, rfl, rfl, hl, rfl⟩) ?_
  have hol := ordT_len rs
  have hog : ∀ r ∈ ordT rs, Good r ∧ r.length ≤ 1000 := fun r hr => hg r (ordT_mem.mp hr)
  generalize hL : ordT rs = L at hol hog
  refine q_new (ds := []) a_nil (by simp) fun p hp => ?_
  show Run _ _ D (p :: M) [.m a, .d (.tuple (L.map rowD)), .m p, .u, .u, .u] [(p, .lst []), (a, .lst (rs.map rowD))]
  refine q_for (i_tup (x_vd rfl)) (fun i δ μ => ∃ e3 e4, δ = [.m a, .d (.tuple (L.map rowD)), .m p, e3, e4, .u] ∧ μ = [(p, .lst (((L.take i).filter (upw L)).map rowD)), (a, .lst (rs.map rowD))]) ⟨_, _, rfl, rfl⟩ ?_ ?_
  · rintro B' hB i d δ1 μ1 hi ⟨e3, e4, rfl, rfl⟩
    obtain ⟨row, hrow, rfl, _⟩ := rows_get hi
    have hil := (List.getElem?_eq_some_iff.mp hrow).1
    have grow := hog row (List.mem_of_getElem? hrow)
    refine ⟨[3], _, tg_name, ?_⟩
    show Run _ _ _ _ [.m a, .d (.tuple (L.map rowD)), .m p, .d (rowD row), e4, .u] _
    have hlen : (L.map rowD).length = L.length := List.length_map _
    refine q_asg (e := .d (.list ((L.filter fun o => decide (row.length < o.length)).map rowD))) (x_is (x_lc (fun _ => [(p, .lst (((L.take i).filter (upw L)).map rowD)), (a, .lst (rs.map rowD))]) (fun j => decide (row.length < (L.getD j []).length)) (fun j => rowD (L.getD j [])) (i_tup (x_vd rfl)) (by rw [hlen]; omega) (fun j d hj G' B'' D' => ?_)) ?_) ?_
    · obtain ⟨o, ho, rfl, eo⟩ := rows_get hj
      refine ⟨[5], [.m a, .d (.tuple (L.map rowD)), .m p, .d (rowD row), e4, .d (rowD o)], _, tg_name, fun k hk => hk, ?_, fun _ => ?_, fun _ => rfl⟩
      · refine t_is (t_test (x_op (x_cbP (a_cons (x_vd rfl) a_nil) c_lenT) (x_cbP (a_cons (x_vd rfl) a_nil) c_lenT) o_B0)) ?_
        rw [eo, List.length_map, List.length_map]
        refine decide_eq_decide.mpr ?_
        constructor <;> intro z <;> omega
      · rw [eo]
        exact x_vd rfl
    · rw [hlen]
      have := lcD_filter L [] (fun o => decide (row.length < o.length)) rowD
      rw [this]
    · show Run _ _ _ _ [.m a, .d (.tuple (L.map rowD)), .m p, .d (rowD row), .d (.list ((L.filter fun o => decide (row.length < o.length)).map rowD)), .u] _
      have hfl : (L.filter fun o => decide (row.length < o.length)).length ≤ 64 := Nat.le_trans (List.length_filter_le _ _) (by omega)
      have hfm : ∀ o ∈ L.filter fun o => decide (row.length < o.length), Good o ∧ o.length ≤ 1000 := fun o ho => hog o (List.mem_filter.mp ho).1
      have hup : upw L row = !((L.filter fun o => decide (row.length < o.length)).map fun o => decide (row.Sublist o)).any id := rfl
      generalize (L.filter fun o => decide (row.length < o.length)) = W at hfl hfm hup
      have nxt : ((L.take (i + 1)).filter (upw L)) = (L.take i).filter (upw L) ++ if upw L row = true then [row] else [] := by
        rw [take_succ' hrow, List.filter_append, List.filter_cons]
        rfl
      refine r_if (b := upw L row) (t_is (t_not (t_B (x_cbP (a_cons (x_is (x_lcP (ts := [5]) (fun j => .bool (decide (row.Sublist (W.getD j [])))) (i_list (x_vd rfl)) (by rw [List.length_map]; omega) (fun j => [.m a, .d (.tuple (L.map rowD)), .m p, .d (rowD row), .d (.list (W.map rowD)), .d (rowD (W.getD j []))]) (fun j d hj => ?_) (fun k hk => hk) fun j d hj G' B'' D' => ?_) ?_) a_nil) (c_any (bs := W.map fun o => decide (row.Sublist o)) (.d _))))) hup.symm) (fun hb => ?_) fun hb => ?_
      · obtain ⟨o, ho, rfl, eo⟩ := rows_get hj
        rw [eo]
        exact tg_name
      · obtain ⟨o, ho, rfl, eo⟩ := rows_get hj
        have go := hfm o (List.mem_of_getElem? ho)
        rw [eo]
        exact x_callR (ds := [ts row, ts o]) (a_cons (x_vd rfl) (a_cons (x_vd rfl) a_nil)) ⟨row, o, rfl, grow.1, go.1, grow.2, go.2, rfl⟩
      · rw [List.length_map, range_map W [] fun o => PyData.bool (decide (row.Sublist o)), List.map_map]
        rfl
      · rw [if_pos hb] at nxt
        refine r_app (j := 0) (d := rowD row) (x_vm rfl) (x_vd rfl) rfl rfl (by rw [List.length_map]; have := List.length_filter_le (upw L) (L.take i); rw [List.length_take] at this; omega) fun σ H o => ⟨_, _, ⟨_, _, rfl, ?_⟩, o⟩
        rw [nxt, List.map_append]; rfl
      · rw [if_neg (by rw [hb]; decide), List.append_nil] at nxt
        exact r_next fun σ H o => ⟨_, _, ⟨_, _, rfl, by rw [nxt]⟩, o⟩
  · rintro δ1 μ1 ⟨e3, e4, rfl, rfl⟩
    rw [List.length_map, List.take_length]
    have eg : greatR rs = L.filter (upw L) := by unfold greatR; rw [hL]
    rw [eg] at fin
    exact r_retE (x_cbP (a_cons (x_vm rfl) a_nil) (c_tupleL (.m (j := 0) rfl))) (fun z hz => List.mem_cons_of_mem _ hz) fin
end
end K02
namespace K02
open PySem L2 FD Evl
/-! ### the law's draws -/
abbrev Box := Int × Int × Int
def Box.ds (b : Box) : List PyData := [.int b.1, .int b.2.1, .int b.2.2]
def rawOf (y z : Int) : Int := ((y + 99991 * z) * 69621 + 53) % 2147483563
def nextOf (r : Int) : Int := (r * 40692 + 27011) % 2147483629 + 1
def tkB (b : Box) (n : Int) : Box := if 0 < b.1 then (b.1 / n, b.2.1, b.2.2) else (b.1, nextOf (rawOf b.2.1 (b.2.2 + 1)), b.2.2 + 1)
def tkV (b : Box) (n : Int) : Int := if 0 < b.1 then b.1 % n else (rawOf b.2.1 (b.2.2 + 1) * 2147483647 + nextOf (rawOf b.2.1 (b.2.2 + 1))) / 8191 % n
theorem tkV_lt {b : Box} {n : Int} (h : 0 < n) : 0 ≤ tkV b n ∧ tkV b n < n := by
  unfold tkV
  split
  · exact ⟨Int.emod_nonneg _ (by omega), Int.emod_lt_of_pos _ h⟩
  · exact ⟨Int.emod_nonneg _ (by omega), Int.emod_lt_of_pos _ h⟩
def Rtk (bs ds : List PyData) (d : PyData) (bs' : List PyData) : Prop := ∃ (b : Box) (n : Int), bs = b.ds ∧ ds = [.int n] ∧ 0 < n ∧ n < 2 ^ 64 ∧ d = .int (tkV b n) ∧ bs' = (tkB b n).ds
section
variable {P : Program} {w : World} {K : PySem.W.Frag} {mg : Str → Option Value} {base : Heap}
abbrev nTk : List Str := ["_law_box_here", "_law_many", "_law_raw", "_law_digit"]
theorem scTk : FnScope nTk ["_law_box_here", "_law_many"] (defScope sTk) := ⟨rfl, rfl, rfl, by decide +kernel, rfl, by decide +kernel, by decide +kernel⟩
theorem ok_tk {f : Addr} {fd : FuncData} (T : Txt mg) (F : Fun K "_law_take" "_law_take" sTk f fd) : FnOk P w K mg base CX0 1 f fd ["_law_box_here", "_law_many"] (spW K 2 Rtk) := by
  refine def_W F scTk (by decide) rfl fun cdv A outer s H E hr => ?_
  have nd := scTk.nd
  refine ⟨_, (pss_cons (ps_if (pt_cmpR op_gt (pe_ix ix_list (pv 0) pe_int (fun _ _ => rfl)) pe_int (nomark _)) (pss_cons (ps_set (i := 3) nd rfl (Or.inl rfl) (pe_op op_mod (pe_callTy call_int1 (by rfl) T.int (by decide +kernel) (pa_cons (pe_ix ix_list (pv 0) pe_int (fun _ _ => rfl)) pa_nil)) (pv 1)))
 (pss_cons (ps_asg (pe_op op_fdivW (pe_ix ix_list (pv 0) pe_int (fun _ _ => rfl)) (pv 1)) (pg_sub (pv 0) pe_int set_list))
 (pss_one (ps_ret (pv 3))))) pss_nil)
 (pss_cons (ps_asg (pe_op op_add (pe_ix ix_list (pv 0) pe_int (fun _ _ => rfl)) pe_int) (pg_sub (pv 0) pe_int set_list))
 (pss_cons (ps_set (i := 2) nd rfl (Or.inl rfl) (pe_op op_mod (pe_callTy call_int1 (by rfl) T.int (by decide +kernel) (pa_cons (pe_op op_add (pe_op op_mul (pe_op op_add (pe_ix ix_list (pv 0) pe_int (fun _ _ => rfl)) (pe_op op_mul pe_int (pe_ix ix_list (pv 0) pe_int (fun _ _ => rfl)))) pe_int) pe_int) pa_nil)) pe_int))
 (pss_cons (ps_asg (pe_op op_add (pe_op op_mod (pe_callTy call_int1 (by rfl) T.int (by decide +kernel) (pa_cons (pe_op op_add (pe_op op_mul (pv 2) pe_int) pe_int) pa_nil)) pe_int) pe_int) (pg_sub (pv 0) pe_int set_list))
 (pss_one (ps_ret (pe_op op_mod (pe_callTy call_int1 (by rfl) T.int (by decide +kernel) (pa_cons (pe_op op_fdivW (pe_op op_add (pe_op op_mul (pv 2) pe_int) (pe_ix ix_list (pv 0) pe_int (fun _ _ => rfl))) pe_int) pa_nil)) (pv 1)))))))), ?_⟩
  rintro M G B b bs ds d bs' _ ⟨⟨x, y, z⟩, n, rfl, rfl, h0, h1, rfl, rfl⟩ D fin
  show Run _ _ D M [.m b, .d (.int n), .u, .u] [(b, .lst [.int x, .int y, .int z])]
  have hR : Rdd [(b, .lst [.int x, .int y, .int z])] (.m b) (.list [.int x, .int y, .int z]) := .m (j := 0) rfl
  refine q_when (t_test (x_op (x_op (x_vm rfl) x_int (o_ixL hR rfl)) x_int o_B0)) (fun hb => ?_) fun hb => ?_
  · have hx : 0 < x := of_decide_eq_true hb
    refine q_asg (x_op (x_cbP (a_cons (x_op (x_vm rfl) x_int (o_ixL hR rfl)) a_nil) c_intI) (x_vd rfl) (o_I h0)) ?_
    refine q_setL (j := 0) (n := 0) (x_op (x_op (x_vm rfl) x_int (o_ixL hR rfl)) (x_vd rfl) (o_I (wide_div h0 (b := 64) (by omega) (by decide) (by decide)))) (x_vm rfl) x_int rfl rfl ?_
    refine r_retW (j := 0) (x_vd rfl) rfl fun v M' H' e s m r => fin v M' H' e s ?_ ?_
    · have e1 : (tkB (x, y, z) n).ds = [.int (x / n), .int y, .int z] := by unfold tkB; rw [if_pos hx]; rfl
      rw [e1]; exact m
    · have e1 : tkV (x, y, z) n = x % n := by unfold tkV; rw [if_pos hx]
      rw [e1]; exact r
  · have hx : ¬ 0 < x := of_decide_eq_false hb
    refine q_setL (j := 0) (n := 2) (x_op (x_op (x_vm rfl) x_int (o_ixL hR rfl)) x_int o_I0) (x_vm rfl) x_int rfl rfl ?_
    have hR2 : Rdd [(b, .lst [.int x, .int y, .int (z + 1)])] (.m b) (.list [.int x, .int y, .int (z + 1)]) := .m (j := 0) rfl
    show Run _ _ D M [.m b, .d (.int n), .u, .u] [(b, .lst [.int x, .int y, .int (z + 1)])]
    refine q_asg (x_op (x_cbP (a_cons (x_op (x_op (x_op (x_op (x_vm rfl) x_int (o_ixL hR2 rfl)) (x_op x_int (x_op (x_vm rfl) x_int (o_ixL hR2 rfl)) (o_I (.inl ⟨by decide, by decide⟩))) o_I0) x_int (o_I (.inr ⟨by decide, by decide⟩))) x_int o_I0) a_nil) c_intI) x_int (o_I (by decide))) ?_
    show Run _ _ D M [.m b, .d (.int n), .d (.int (rawOf y (z + 1))), .u] [(b, .lst [.int x, .int y, .int (z + 1)])]
    refine q_setL (j := 0) (n := 1) (x_op (x_op (x_cbP (a_cons (x_op (x_op (x_vd rfl) x_int (o_I (.inr ⟨by decide, by decide⟩))) x_int o_I0) a_nil) c_intI) x_int (o_I (by decide))) x_int o_I0) (x_vm rfl) x_int rfl rfl ?_
    have hR3 : Rdd [(b, .lst [.int x, .int (nextOf (rawOf y (z + 1))), .int (z + 1)])] (.m b) (.list [.int x, .int (nextOf (rawOf y (z + 1))), .int (z + 1)]) := .m (j := 0) rfl
    show Run _ _ D M [.m b, .d (.int n), .d (.int (rawOf y (z + 1))), .u] [(b, .lst [.int x, .int (nextOf (rawOf y (z + 1))), .int (z + 1)])]
    refine r_retW (j := 0) (x_op (x_cbP (a_cons (x_op (x_op (x_op (x_vd rfl) x_int (o_I (.inr ⟨by decide, by decide⟩))) (x_op (x_vm rfl) x_int (o_ixL hR3 rfl)) o_I0) x_int (o_I (wide_div (by decide) (b := 64) (by decide) (by decide) (by decide)))) a_nil) c_intI) (x_vd rfl) (o_I h0)) rfl fun v M' H' e s m r => fin v M' H' e s ?_ ?_
    · have e1 : (tkB (x, y, z) n).ds = [.int x, .int (nextOf (rawOf y (z + 1))), .int (z + 1)] := by unfold tkB; rw [if_neg hx]; rfl
      rw [e1]; exact m
    · have e1 : tkV (x, y, z) n = (rawOf y (z + 1) * 2147483647 + nextOf (rawOf y (z + 1))) / 8191 % n := by unfold tkV; rw [if_neg hx]
      rw [e1]; exact r
theorem at_nat {α : Type} {xs : List α} {i : Int} {v : α} (h0 : 0 ≤ i) (h : xs[i.toNat]? = some v) : atI xs i = some v := by
  have e : i = (i.toNat : Int) := by omega
  rw [e]; exact atI_nat h
end
end K02
namespace FD
open PySem L2 Evl
section
variable {C : Cfg} {M : List Addr} {δ δ' : List Ent} {μ μ' μ'' : Mem} {t : TT} {b : Bool} {t1 t2 t3 : TS} {D : Ends}
/-- both ways meet -/
theorem q_ifJ (δ' : List Ent) (μ'' : Mem) (h : EvT C t M δ μ μ' b) (h1 : b = true → ∀ D', Nx C D' M δ' μ'' → Run C t1 D' M δ μ') (h2 : b = false → ∀ D', Nx C D' M δ' μ'' → Run C t2 D' M δ μ') (k : Run C t3 D M δ' μ'') : Run C (tSeq (tIfS t t1 t2) t3) D M δ μ :=
  q_if h (fun hb => h1 hb { D with nx := t3 D } k) (fun hb => h2 hb { D with nx := t3 D } k)
theorem nx_to {δ1 : List Ent} {μ1 : Mem} (k : Nx C D M δ1 μ1) (e1 : δ = δ1) (e2 : μ = μ1) : Nx C D M δ μ := by rw [e1, e2]; exact k
end
end FD
namespace FD
open PySem L2 Evl
section
variable {C : Cfg} {M : List Addr} {δ δ' : List Ent} {μ μ' : Mem} {t : TT} {b : Bool} {t1 t2 t3 : TS} {D : Ends} {te : TE} {g : TG} {d : PyData}
theorem x_is_a {ta : TA} {es es' : List Ent} {μ1 : Mem} (h : EvA C ta M δ μ μ' es) (e : es = es') (q : μ' = μ1) : EvA C ta M δ μ μ1 es' := by rw [← e, ← q]; exact h
theorem q_asgG {tl : List Nat} (h : EvX C te M δ μ μ' (.d d)) (tg : TgX C.K g tl d δ δ') (k : Run C t2 D M δ' μ') : Run C (tSeq (tAsg te g) t2) D M δ μ := fun σ H o =>
  h σ H o _ fun v H' o' x r => tg C M μ' σ H' v rfl o' r _ fun σ' o2 _ _ => k σ' H' o2
theorem q_whenJ (J : List Ent → Mem → Prop) (h : EvT C t M δ μ μ' b) (h1 : b = true → ∀ D', (∀ δ1 μ1, J δ1 μ1 → Nx C D' M δ1 μ1) → Run C t1 D' M δ μ') (h2 : b = false → J δ μ') (k : ∀ δ1 μ1, J δ1 μ1 → Run C t3 D M δ1 μ1) : Run C (tSeq (tIfS t t1 tNext) t3) D M δ μ :=
  q_when h (fun hb => h1 hb { D with nx := t3 D } k) (fun hb => k _ _ (h2 hb))
end
end FD
namespace K02
open PySem L2 FD Evl
def absI (i : Int) : Int := if i < 0 then -i else i
def cellOf (ns : List Int) (k : Nat) : Int := if k < ns.length then absI (ns.getD k 0) else if 0 < ns.length then 7919 * (k : Int) + 41543 + absI (ns.getD (k % ns.length) 0) % 2147483629 * 60719 else 7919 * (k : Int) + 41543
def bxOf (ns : List Int) (k : Nat) : Box := (if (10 : Int) ^ (18 : Int).toNat ≤ cellOf ns k then cellOf ns k else 0, (cellOf ns k % 2147483629 * 48271 + 41543 * (k : Int) + 977) % 2147483629 + 1, 0)
section
variable {P : Program} {w : World} {K : PySem.W.Frag} {mg : Str → Option Value} {base : Heap}
def Rbx (ds es : List PyData) : Prop := ∃ (ns : List Int) (k : Nat), ds = [.list (ns.map .int), .int (k : Int)] ∧ k < 64 ∧ es = (bxOf ns k).ds
abbrev nBx : List Str := ["_law_script", "_law_k", "_law_cell"]
theorem scBx : FnScope nBx ["_law_script", "_law_k"] (defScope sBx) := ⟨rfl, rfl, rfl, by decide +kernel, rfl, by decide +kernel, by decide +kernel⟩
theorem ti_get {xs : List Int} {i : Nat} {x : Int} (h : xs[i]? = some x) : (xs.map PyData.int)[i]? = some (.int x) := by rw [List.getElem?_map, h]; rfl
theorem getD_get {xs : List Int} {i : Nat} (h : i < xs.length) : xs[i]? = some (xs.getD i 0) := by simp [h]
theorem ok_bx {f : Addr} {fd : FuncData} (T : Txt mg) (F : Fun K "_law_box" "_law_box" sBx f fd) : FnOk P w K mg base CX0 1 f fd ["_law_script", "_law_k"] (spN K 2 Rbx) := by
  refine def_N F scBx (by decide) fun cdv A outer s H E hr => ?_
  have nd := scBx.nd
  refine ⟨_, (pss_cons (ps_set (i := 2) nd rfl (Or.inl rfl) (pe_op op_add (pe_op op_mul pe_int (pv 1)) pe_int))
 (pss_cons (ps_if (pt_cmpR op_lt (pv 1) (pe_callB call_len_seq (by rfl) T.len PySem.boot_len (pa_cons (pv 0) pa_nil)) (nomark _)) (pss_one (ps_set (i := 2) nd rfl (Or.inl rfl) (pe_callB call_abs (by rfl) T.abs (by decide +kernel) (pa_cons (pe_ix ix_list (pv 0) (pv 1) (fun _ _ => rfl)) pa_nil)))) (pss_one (ps_if (pt_cmpR op_gt (pe_callB call_len_seq (by rfl) T.len PySem.boot_len (pa_cons (pv 0) pa_nil)) pe_int (nomark _)) (pss_one (ps_set (i := 2) nd rfl (Or.inl rfl) (pe_op op_add (pv 2) (pe_op op_mul (pe_op op_mod (pe_callTy call_int1 (by rfl) T.int (by decide +kernel) (pa_cons (pe_callB call_abs (by rfl) T.abs (by decide +kernel) (pa_cons (pe_ix ix_list (pv 0) (pe_op op_mod (pe_callTy call_int1 (by rfl) T.int (by decide +kernel) (pa_cons (pv 1) pa_nil)) (pe_callB call_len_seq (by rfl) T.len PySem.boot_len (pa_cons (pv 0) pa_nil))) (fun _ _ => rfl)) pa_nil)) pa_nil)) pe_int) pe_int)))) pss_nil)))
 (pss_one (ps_ret (pe_lst (pa_cons (pe_ix ix_list (pe_lst (pa_cons pe_int (pa_cons (pv 2) pa_nil))) (pe_callTy call_int1 (by rfl) T.int (by decide +kernel) (pa_cons (pe_cmpR op_ge (pv 2) (pe_op op_pow pe_int pe_int) (nomark _)) pa_nil)) (fun _ _ => rfl)) (pa_cons (pe_op op_add (pe_op op_mod (pe_callTy call_int1 (by rfl) T.int (by decide +kernel) (pa_cons (pe_op op_add (pe_op op_add (pe_op op_mul (pe_op op_mod (pe_callTy call_int1 (by rfl) T.int (by decide +kernel) (pa_cons (pv 2) pa_nil)) pe_int) pe_int) (pe_op op_mul pe_int (pv 1))) pe_int) pa_nil)) pe_int) pe_int) (pa_cons pe_int pa_nil)))))))), ?_⟩
  rintro M G B ds es _ ⟨ns, k, rfl, hk, rfl⟩ D fin
  show Run _ _ D M [.d (.list (ns.map .int)), .d (.int (k : Int)), .u] []
  refine q_asg (x_op (x_op x_int (x_vd rfl) (o_I (.inl ⟨by decide, by decide⟩))) x_int o_I0) ?_
  refine q_ifJ [.d (.list (ns.map .int)), .d (.int (k : Int)), .d (.int (cellOf ns k))] [] (t_test (x_op (x_vd rfl) (x_cbP (a_cons (x_vd rfl) a_nil) (c_lenL (.d _))) o_B0)) (fun hb D' kk => ?_) (fun hb D' kk => ?_) ?_
  · have h : k < ns.length := by have := of_decide_eq_true hb; rw [List.length_map] at this; omega
    refine r_asg (x_cbP (a_cons (x_op (x_vd rfl) (x_vd rfl) (o_ixL (.d _) (atI_nat (ti_get (getD_get h))))) a_nil) c_abs) (nx_to kk ?_ rfl)
    unfold cellOf
    rw [if_pos h]; rfl
  · have h : ¬ k < ns.length := by have := of_decide_eq_false hb; rw [List.length_map] at this; omega
    refine r_if (t_test (x_op (x_cbP (a_cons (x_vd rfl) a_nil) (c_lenL (.d _))) x_int o_B0)) (fun hb => ?_) fun hb => ?_
    · have h0 : 0 < ns.length := by have := of_decide_eq_true hb; rw [List.length_map] at this; omega
      have e : ((k : Int) % ((ns.map PyData.int).length : Int)) = ((k % ns.length : Nat) : Int) := by rw [List.length_map]; omega
      refine r_asg (x_op (x_vd rfl) (x_op (x_op (x_cbP (a_cons (x_cbP (a_cons (x_op (x_vd rfl) (x_op (x_cbP (a_cons (x_vd rfl) a_nil) c_intI) (x_cbP (a_cons (x_vd rfl) a_nil) (c_lenL (.d _))) (o_I (by rw [List.length_map]; omega))) (o_ixL (.d _) (by rw [e]; exact atI_nat (ti_get (getD_get (Nat.mod_lt _ h0)))))) a_nil) c_abs) a_nil) c_intI) x_int (o_I (by decide))) x_int (o_I (.inr ⟨by decide, by decide⟩))) o_I0) (nx_to kk ?_ rfl)
      unfold cellOf
      rw [if_neg h, if_pos h0]; rfl
    · have h0 : ¬ 0 < ns.length := by have := of_decide_eq_false hb; rw [List.length_map] at this; omega
      refine r_next (nx_to kk ?_ rfl)
      unfold cellOf
      rw [if_neg h, if_neg h0]; rfl
  · refine r_retN (μ' := []) (es := (bxOf ns k).ds) ?_ (by simp [Box.ds]) fin
    refine a_cons (x_is (x_op (x_lst (ds := [.int 0, .int (cellOf ns k)]) (a_cons x_int (a_cons (x_vd rfl) a_nil)) (by simp)) (x_cbP (a_cons (x_op (x_vd rfl) (x_op x_int x_int (o_I ⟨by decide, by decide, by decide⟩)) o_B0) a_nil) c_intB) (o_ixL (d := .int (bxOf ns k).1) (.d _) ?_)) rfl) (a_cons (x_op (x_op (x_cbP (a_cons (x_op (x_op (x_op (x_op (x_cbP (a_cons (x_vd rfl) a_nil) c_intI) x_int (o_I (by decide))) x_int (o_I (.inr ⟨by decide, by decide⟩))) (x_op x_int (x_vd rfl) (o_I (.inl ⟨by decide, by decide⟩))) o_I0) x_int o_I0) a_nil) c_intI) x_int (o_I (by decide))) x_int o_I0) (a_cons x_int a_nil))
    unfold bxOf
    by_cases hc : (10 : Int) ^ (18 : Int).toNat ≤ cellOf ns k
    · rw [decide_eq_true hc]; simp only [hc, if_true]; rfl
    · rw [decide_eq_false hc]; simp only [hc, if_false]; rfl
end
section
variable {C : Cfg} {M : List Addr} {δ : List Ent} {μ μ' : Mem} {tb tn : TE} {E : XK} {p : Addr} {b : Box} {n : Int}
theorem x_take (h1 : EvX C tb M δ [(p, .lst b.ds)] [(p, .lst b.ds)] (.m p)) (h2 : EvX C tn M δ [(p, .lst b.ds)] [(p, .lst b.ds)] (.d (.int n))) (h0 : 0 < n) (h3 : n < 2 ^ 64) :
    EvX C (tCall (spW C.K 2 Rtk) [] E (tCons tb (tCons tn tNil))) M δ [(p, .lst b.ds)] [(p, .lst (tkB b n).ds)] (.d (.int (tkV b n))) :=
  x_callW 0 (ds := [.int n]) (a_cons h1 (a_cons h2 a_nil)) ⟨b, n, rfl, rfl, h0, h3, rfl, rfl⟩
theorem x_takeJ (j : Nat) (h1 : EvX C tb M δ μ μ (.m p)) (h2 : EvX C tn M δ μ μ (.d (.int n))) (hj : μ[j]? = some (p, .lst b.ds)) (h0 : 0 < n) (h3 : n < 2 ^ 64) :
    EvX C (tCall (spW C.K 2 Rtk) [] E (tCons tb (tCons tn tNil))) M δ μ (μ.set j (p, .lst (tkB b n).ds)) (.d (.int (tkV b n))) :=
  x_callW j (ds := [.int n]) (a_cons h1 (a_cons h2 a_nil)) ⟨b, n, rfl, rfl, h0, h3, rfl, rfl⟩ hj
end
/-! ### _law_pick -/
def Rpk (es : List Ent) (μ : Mem) (d : PyData) (μ' : Mem) : Prop := ∃ (b : Addr) (bx : Box) (xs : List PyData), 0 < xs.length ∧ xs.length < 100000 ∧ xs[(tkV bx xs.length).toNat]? = some d ∧
  ((es = [.m b, .d (.list xs)] ∧ μ = [(b, .lst bx.ds)] ∧ μ' = [(b, .lst (tkB bx xs.length).ds)]) ∨ ∃ f : Addr, es = [.m b, .m f] ∧ μ = [(f, .lst xs), (b, .lst bx.ds)] ∧ μ' = [(f, .lst xs), (b, .lst (tkB bx xs.length).ds)])
theorem swap_all {μ μ' : Mem} (h : ad μ' = ad μ) : Swap μ μ' μ μ' := ⟨fun _ h => h, h, h, fun _ h => .inl h⟩
section
variable {C : Cfg} {M : List Addr} {δ : List Ent} {μ μ' : Mem} {tb tn : TE} {E : XK} {p f : Addr} {b : Box} {xs : List PyData} {d : PyData}
theorem x_pickD (h1 : EvX C tb M δ [(p, .lst b.ds)] [(p, .lst b.ds)] (.m p)) (h2 : EvX C tn M δ [(p, .lst b.ds)] [(p, .lst b.ds)] (.d (.list xs))) (h0 : 0 < xs.length) (h3 : xs.length < 100000)
    (hx : xs[(tkV b xs.length).toNat]? = some d) : EvX C (tCall (spE C.K 2 Rpk) [] E (tCons tb (tCons tn tNil))) M δ [(p, .lst b.ds)] [(p, .lst (tkB b xs.length).ds)] (.d d) :=
  x_callE (a_cons h1 (a_cons h2 a_nil)) (swap_all rfl) (by simp [ad]) ⟨p, b, xs, h0, h3, hx, .inl ⟨rfl, rfl, rfl⟩⟩
theorem x_pickM (h1 : EvX C tb M δ [(f, .lst xs), (p, .lst b.ds)] [(f, .lst xs), (p, .lst b.ds)] (.m p)) (h2 : EvX C tn M δ [(f, .lst xs), (p, .lst b.ds)] [(f, .lst xs), (p, .lst b.ds)] (.m f)) (h0 : 0 < xs.length) (h3 : xs.length < 100000)
    (hx : xs[(tkV b xs.length).toNat]? = some d) : EvX C (tCall (spE C.K 2 Rpk) [] E (tCons tb (tCons tn tNil))) M δ [(f, .lst xs), (p, .lst b.ds)] [(f, .lst xs), (p, .lst (tkB b xs.length).ds)] (.d d) :=
  fun σ H o Q k => x_callE (μ0' := [(f, .lst xs), (p, .lst (tkB b xs.length).ds)]) (a_cons h1 (a_cons h2 a_nil)) (swap_all rfl) o.nd ⟨p, b, xs, h0, h3, hx, .inr ⟨f, rfl, rfl, rfl⟩⟩ rfl σ H o Q k
end
section
variable {P : Program} {w : World} {K : PySem.W.Frag} {mg : Str → Option Value} {base : Heap}
abbrev nPk : List Str := ["_law_box_here", "_law_some"]
theorem scPk : FnScope nPk ["_law_box_here", "_law_some"] (defScope sPk) := ⟨rfl, rfl, rfl, by decide +kernel, rfl, by decide +kernel, by decide +kernel⟩
theorem ok_pk {f : Addr} {fd : FuncData} (T : Txt mg) (F : Fun K "_law_pick" "_law_pick" sPk f fd) {f1 : Addr} {fd1 : FuncData} (H1 : Has K mg "_law_take" sTk ["_law_box_here", "_law_many"] f1 fd1) : FnOk P w K mg base CX0 2 f fd ["_law_box_here", "_law_some"] (spE K 2 Rpk) := by
  have G1 : FnOk P w K mg base CX0 1 f1 fd1 ["_law_box_here", "_law_many"] (spW K 2 Rtk) := ok_tk T H1.F
  refine def_E F scPk (by decide) rfl fun cdv A outer s H E hr => ?_
  have nd := scPk.nd
  refine ⟨_, (pss_one (ps_ret (pe_ix ix_list (pv 1) (pe_call G1 hr rfl H1.m H1.F.kp H1.b .nil pass0 (pa_cons (pv 0) (pa_cons (pe_callB call_len_seq (by rfl) T.len PySem.boot_len (pa_cons (pv 1) pa_nil)) pa_nil))) (fun _ _ => rfl)))), ?_⟩
  rintro M G B es μ d μ' ⟨b, bx, xs, h0, h1, hx, (⟨rfl, rfl, rfl⟩ | ⟨f, rfl, rfl, rfl⟩)⟩ D fin
  · have hv := tkV_lt (b := bx) (n := xs.length) (by omega)
    show Run _ _ D M [.m b, .d (.list xs)] [(b, .lst bx.ds)]
    exact r_retE (x_op (x_vd rfl) (x_takeJ 0 (x_vm rfl) (x_cbP (a_cons (x_vd rfl) a_nil) (c_lenL (.d _))) rfl (by omega) (by omega)) (o_ixL (.d _) (at_nat hv.1 hx))) (fun z hz => hz) fin
  · have hv := tkV_lt (b := bx) (n := xs.length) (by omega)
    show Run _ _ D M [.m b, .m f] [(f, .lst xs), (b, .lst bx.ds)]
    exact r_retE (x_op (x_vm rfl) (x_takeJ 1 (x_vm rfl) (x_cbP (a_cons (x_vm rfl) a_nil) (c_lenL (.m (j := 0) rfl))) rfl (by omega) (by omega)) (o_ixL (.m (j := 0) rfl) (at_nat hv.1 hx))) (fun z hz => hz) fin
/-! ### _law_letter -/
abbrev letters : Str := "abcdefghijklmnopqrstuvwxyz"
def letC (n : Nat) : Nat := letters.cps.toList.getD (n % 26) 0
def letS (n : Nat) : Str := ⟨#[letC n]⟩
theorem len_codes (x : Str) : x.length = x.cps.toList.length := by
  show x.cps.size = _
  simp
theorem let_len : letters.cps.toList.length = 26 := by decide +kernel
theorem let_nodup : letters.cps.toList.Nodup := by decide +kernel
theorem let_small : ∀ c ∈ letters.cps.toList, c < 0x110000 := by decide +kernel
theorem letC_get (n : Nat) : letters.cps.toList[n % 26]? = some (letC n) := by
  unfold letC
  rw [List.getD_eq_getElem?_getD, List.getElem?_eq_getElem (by rw [let_len]; omega)]; rfl
theorem let_size : letters.length ≤ 100000 := by rw [len_codes, let_len]; omega
theorem x_let {C : Cfg} {M : List Addr} {δ : List Ent} {μ μ1 μ2 : Mem} {ta tb : TE} {n : Int} (hx : EvX C ta M δ μ μ1 (.d (.str letters))) (h : EvX C tb M δ μ1 μ2 (.d (.int n))) (h0 : 0 ≤ n) (h1 : n < 26) : EvX C (tOp rIxS ta tb) M δ μ μ2 (.d (.str (letS n.toNat))) :=
  x_op hx h (o_ixS let_size (at_nat h0 (by have := letC_get n.toNat; rwa [Nat.mod_eq_of_lt (by omega)] at this)))
def Rle (bs ds : List PyData) (d : PyData) (bs' : List PyData) : Prop := ∃ b : Box, bs = b.ds ∧ ds = [] ∧ d = .str (letS (tkV b 26).toNat) ∧ bs' = (tkB b 26).ds
abbrev nLe : List Str := ["_law_box_here"]
theorem scLe : FnScope nLe ["_law_box_here"] (defScope sLe) := ⟨rfl, rfl, rfl, by decide +kernel, rfl, by decide +kernel, by decide +kernel⟩
theorem ok_le {f : Addr} {fd : FuncData} (T : Txt mg) (F : Fun K "_law_letter" "_law_letter" sLe f fd) {f1 : Addr} {fd1 : FuncData} (H1 : Has K mg "_law_take" sTk ["_law_box_here", "_law_many"] f1 fd1) : FnOk P w K mg base CX0 2 f fd ["_law_box_here"] (spW K 1 Rle) := by
  have G1 : FnOk P w K mg base CX0 1 f1 fd1 ["_law_box_here", "_law_many"] (spW K 2 Rtk) := ok_tk T H1.F
  refine def_W F scLe (by decide) rfl fun cdv A outer s H E hr => ?_
  have nd := scLe.nd
  refine ⟨_, (pss_one (ps_ret (pe_ix ix_str pe_str (pe_call G1 hr rfl H1.m H1.F.kp H1.b .nil pass0 (pa_cons (pv 0) (pa_cons pe_int pa_nil))) (fun _ _ => rfl)))), ?_⟩
  rintro M G B b bs ds d bs' _ ⟨bx, rfl, rfl, rfl, rfl⟩ D fin
  show Run _ _ D M [.m b] [(b, .lst bx.ds)]
  have hv := tkV_lt (b := bx) (n := 26) (by decide)
  exact r_retW (j := 0) (x_let x_str (x_takeJ 0 (x_vm rfl) x_int rfl (by decide) (by decide)) hv.1 hv.2) rfl fin
theorem x_letter {C : Cfg} {M : List Addr} {δ : List Ent} {μ : Mem} {tb : TE} {E : XK} {p : Addr} {b : Box} (j : Nat) (h1 : EvX C tb M δ μ μ (.m p)) (hj : μ[j]? = some (p, .lst b.ds)) :
    EvX C (tCall (spW C.K 1 Rle) [] E (tCons tb tNil)) M δ μ (μ.set j (p, .lst (tkB b 26).ds)) (.d (.str (letS (tkV b 26).toNat))) :=
  x_callW j (ds := []) (a_cons h1 a_nil) ⟨b, rfl, rfl, rfl, rfl⟩ hj
theorem let_index : ∀ n < 26, Txt.index0 letters (letS n) = some n := by decide +kernel
end
end K02
namespace FD
open PySem L2 Evl
section
variable {C : Cfg} {M : List Addr} {δ : List Ent} {μ μ' : Mem} {t : TT} {b : Bool} {t1 t2 t3 : TS} {D : Ends} {te ta : TE} {d : PyData} {i j : Nat}
theorem q_ifJ2 (J : List Ent → Mem → Prop) (h : EvT C t M δ μ μ' b) (h1 : b = true → ∀ D', (∀ δ1 μ1, J δ1 μ1 → Nx C D' M δ1 μ1) → FD.Run C t1 D' M δ μ') (h2 : b = false → ∀ D', (∀ δ1 μ1, J δ1 μ1 → Nx C D' M δ1 μ1) → FD.Run C t2 D' M δ μ') (k : ∀ δ1 μ1, J δ1 μ1 → FD.Run C t3 D M δ1 μ1) : FD.Run C (tSeq (tIfS t t1 t2) t3) D M δ μ :=
  q_if h (fun hb => h1 hb { D with nx := t3 D } k) (fun hb => h2 hb { D with nx := t3 D } k)
theorem q_parN2 {x : Str} (k : ∀ p, p ∉ M → FD.Run C t2 D (p :: M) ((δ.set i (.d (.str x))).set j (.m p)) ((p, .lst []) :: μ)) : FD.Run C (tSeq (tPar i j (tCons (tC (.str x)) (tCons (tLst tNil) tNil))) t2) D M δ μ := fun σ H o =>
  ⟨sz_of (by simp), fun p hp => by
    have o2 := o.new hp (mo := .lst []) (ho := .lst []) ⟨[], upd_same, .nil⟩
    exact ⟨.str x, .ref p, rfl, k p (o.fresh hp) _ _ ((o2.set i (e := .d (.str x)) (.str x)).set j (e := .m p) rfl)⟩⟩
theorem r_retEM {δ : List Ent} {μ1 : Mem} {a : Addr} {ds : List PyData} (h : EvX C te M δ μ μ1 (.m a)) (hj : (a, .lst ds) ∈ μ1) (ha : a ∉ C.M0) (hs : ∀ p ∈ μ', p ∈ μ1) (k : FinE C D (.list ds) μ') : FD.Run C (tRet te) D M δ μ := fun σ H o => h σ H o _ fun v H1 o1 x1 r => by
  have r' : v = .ref a := r
  rw [r']
  obtain ⟨_, _, vs, q1, q2⟩ := o1.mem _ hj
  refine k _ C.M0 H1 o1.gr (fun _ h => h) (fun p hp => ((o1.mem p (hs p hp)).2.2).mono (hide_sub o1.sub) fun _ q => q) ?_
  refine .lst (sq_of ?_) (dpAll_mono (hide_sub o1.sub) _ _ q2)
  rw [hide_out ha]; exact q1
end
end FD
namespace K02
open PySem L2 FD Evl
theorem eqv_empty (xs : List PyData) : PyData.eqv (.list xs) (.list []) = xs.isEmpty := by
  cases xs <;> simp [PyData.eqv, PyData.eqvAll]
/-! ### words -/
theorem app_codes (x y : Str) : (x ++ y).cps.toList = x.cps.toList ++ y.cps.toList := by
  show (x.cps ++ y.cps).toList = _
  simp
theorem app_len (x y : Str) : (x ++ y).length = x.length + y.length := by rw [len_codes, app_codes, List.length_append, ← len_codes, ← len_codes]
theorem cut_hi {x : Str} {p : Nat} (hp : p ≤ x.length) : (cutS x none (some (p : Int))).cps.toList = x.cps.toList.take p := by
  unfold cutS
  rw [HT.sIx_none, HT.sIx_nat, Nat.min_eq_left hp]
  simp
theorem cut_lo {x : Str} {p : Nat} (hp : p ≤ x.length) : (cutS x (some (p : Int)) none).cps.toList = x.cps.toList.drop p := by
  unfold cutS
  rw [HT.sIx_none, HT.sIx_nat, Nat.min_eq_left hp]
  have : (x.cps.toList.drop p).length = x.length - p := by rw [List.length_drop, ← len_codes]
  simp only []
  rw [List.take_of_length_le (by rw [this]; exact Nat.le_refl _)]
theorem tok_iff {x : Str} : tok x ↔ ∀ c ∈ x.cps.toList, c < 0x110000 := by
  unfold tok
  rw [show PyData.canLay0 (.str x) = x.cps.all (· < 0x110000) by simp [PyData.canLay0, PyData.strOk]]
  rw [← Array.all_toList, List.all_eq_true]
  exact ⟨fun h c hc => of_decide_eq_true (h c hc), fun h c hc => decide_eq_true (h c hc)⟩
structure Wd (x : Str) : Prop where
  pos : 0 < x.length
  small : x.length ≤ 5
  ltr : ∀ c ∈ x.cps.toList, c ∈ letters.cps.toList
theorem Wd.tok {x : Str} (h : Wd x) : tok x := tok_iff.mpr fun c hc => let_small c (h.ltr c hc)
theorem letC_mem (n : Nat) : letC n ∈ letters.cps.toList := List.mem_of_getElem? (letC_get n)
theorem letS_codes (n : Nat) : (letS n).cps.toList = [letC n] := rfl
theorem letS_len (n : Nat) : (letS n).length = 1 := rfl
theorem let_back {c : Nat} (h : c ∈ letters.cps.toList) : ∃ n, n < 26 ∧ c = letC n := by
  obtain ⟨n, hn⟩ := List.getElem?_of_mem h
  have hl := (List.getElem?_eq_some_iff.mp hn).1
  rw [let_len] at hl
  have := letC_get n
  rw [Nat.mod_eq_of_lt hl, hn] at this
  exact ⟨n, hl, Option.some.inj this⟩
theorem join_codes : ∀ ys : List Str, (Str.join (Str.ofString "") ys).cps.toList = ys.flatMap fun y => y.cps.toList
  | [] => rfl
  | [x] => by simp [Str.join]
  | x :: y :: r => by
    show (x ++ Str.ofString "" ++ Str.join (Str.ofString "") (y :: r)).cps.toList = _
    rw [app_codes, app_codes, join_codes (y :: r)]
    have : (Str.ofString "").cps.toList = [] := by decide +kernel
    rw [this]; simp
theorem tjoin_codes (ys : List Str) : (Txt.join (Str.ofString "") ys).cps.toList = ys.flatMap fun y => y.cps.toList := by
  show (Builtin.Str.glued (Str.ofString "") ys).cps.toList = _
  rw [StrLaws.glued_eq_join, join_codes]
theorem wd_join {m : Nat} (f : Nat → Nat) (h0 : 0 < m) (h5 : m ≤ 5) : Wd (Txt.join (Str.ofString "") ((List.range m).map fun i => letS (f i))) := by
  have e : (Txt.join (Str.ofString "") ((List.range m).map fun i => letS (f i))).cps.toList = (List.range m).map fun i => letC (f i) := by
    rw [tjoin_codes, List.flatMap_map]
    induction List.range m with
    | nil => rfl
    | cons a l ih => rw [List.flatMap_cons, ih]; rfl
  have el : (Txt.join (Str.ofString "") ((List.range m).map fun i => letS (f i))).length = m := by rw [len_codes, e, List.length_map, List.length_range]
  refine ⟨by omega, by omega, fun c hc => ?_⟩
  rw [e] at hc
  obtain ⟨i, _, rfl⟩ := List.mem_map.mp hc
  exact letC_mem _
theorem wd_take {x : Str} (h : Wd x) {p : Nat} (hp : p < x.length) : Wd (cutS x none (some ((p + 1 : Nat) : Int))) := by
  have e := cut_hi (x := x) (p := p + 1) (by omega)
  have el : (cutS x none (some ((p + 1 : Nat) : Int))).length = p + 1 := by rw [len_codes, e, List.length_take, ← len_codes]; omega
  have := h.small
  refine ⟨by omega, by omega, fun c hc => ?_⟩
  rw [e] at hc
  exact h.ltr c (List.mem_of_mem_take hc)
theorem wd_put {x : Str} (h : Wd x) {p : Nat} (hp : p < x.length) (n : Nat) : Wd (cutS x none (some (p : Int)) ++ letS n ++ cutS x (some ((p + 1 : Nat) : Int)) none) := by
  have e1 := cut_hi (x := x) (p := p) (by omega)
  have e2 := cut_lo (x := x) (p := p + 1) (by omega)
  have e : (cutS x none (some (p : Int)) ++ letS n ++ cutS x (some ((p + 1 : Nat) : Int)) none).cps.toList = x.cps.toList.take p ++ [letC n] ++ x.cps.toList.drop (p + 1) := by rw [app_codes, app_codes, e1, e2, letS_codes]
  have el : (cutS x none (some (p : Int)) ++ letS n ++ cutS x (some ((p + 1 : Nat) : Int)) none).length = x.length := by
    have := len_codes x
    rw [len_codes, e, List.length_append, List.length_append, List.length_take, List.length_drop]
    simp only [List.length_cons, List.length_nil]
    omega
  refine ⟨by rw [el]; exact h.pos, by rw [el]; exact h.small, fun c hc => ?_⟩
  rw [e] at hc
  rcases List.mem_append.mp hc with q | q
  · rcases List.mem_append.mp q with q | q
    · exact h.ltr c (List.mem_of_mem_take q)
    · rw [List.mem_singleton.mp q]; exact letC_mem n
  · exact h.ltr c (List.mem_of_mem_drop q)
theorem wd_last {x : Str} (h : Wd x) (n : Nat) : Wd (cutS x none (some ((x.length - 1 : Nat) : Int)) ++ letS n) := by
  have e1 := cut_hi (x := x) (p := x.length - 1) (by omega)
  have e : (cutS x none (some ((x.length - 1 : Nat) : Int)) ++ letS n).cps.toList = x.cps.toList.take (x.length - 1) ++ [letC n] := by rw [app_codes, e1, letS_codes]
  have el : (cutS x none (some ((x.length - 1 : Nat) : Int)) ++ letS n).length = x.length := by
    have := len_codes x
    have := h.pos
    rw [len_codes, e, List.length_append, List.length_take]
    simp only [List.length_cons, List.length_nil]
    omega
  refine ⟨by rw [el]; exact h.pos, by rw [el]; exact h.small, fun c hc => ?_⟩
  rw [e] at hc
  rcases List.mem_append.mp hc with q | q
  · exact h.ltr c (List.mem_of_mem_take q)
  · rw [List.mem_singleton.mp q]; exact letC_mem n
theorem wd_end {x : Str} (h : Wd x) : ∃ n, n < 26 ∧ x.cps.toList[x.length - 1]? = some (letC n) := by
  have hl := len_codes x
  have hp := h.pos
  have e : x.cps.toList[x.length - 1]? = some (x.cps.toList[x.length - 1]'(by omega)) := List.getElem?_eq_getElem _
  obtain ⟨n, hn, en⟩ := let_back (h.ltr _ (List.mem_of_getElem? e))
  exact ⟨n, hn, by rw [e, en]⟩
/-! ### the names are unlike -/
theorem letC_inj {m n : Nat} (h : letC m = letC n) : m % 26 = n % 26 := nd_ix let_nodup (letC_get m) (by rw [letC_get n, h])
/-- the name with its last letter so many letters on -/
def onC (x : Str) (c t : Nat) : List Nat := x.cps.toList.take (x.length - 1) ++ [letC (c + t)]
theorem onC_inj {x : Str} {c s t : Nat} (hs : s < 26) (ht : t < 26) (h : onC x c s = onC x c t) : s = t := by
  have h1 := List.append_cancel_left h
  have h2 := letC_inj (List.cons.inj h1).1
  omega
theorem onC_len {x : Str} (h : Wd x) (c t : Nat) : (onC x c t).length = x.length := by
  have := len_codes x
  have := h.pos
  unfold onC
  rw [List.length_append, List.length_take]
  simp only [List.length_cons, List.length_nil]
  omega
theorem onC_zero {x : Str} (h : Wd x) {c : Nat} (e : x.cps.toList[x.length - 1]? = some (letC c)) : x.cps.toList = onC x c 0 := by
  have hl := len_codes x
  have hp := h.pos
  have h2 : x.cps.toList.drop (x.length - 1) = [letC c] := by
    rw [List.drop_eq_getElem_cons (by omega)]
    have e2 : x.cps.toList[x.length - 1]'(by omega) = letC c := by
      have := List.getElem?_eq_getElem (l := x.cps.toList) (i := x.length - 1) (by omega)
      rw [this] at e
      exact Option.some.inj e
    rw [e2, List.drop_eq_nil_of_le (by omega)]
  have h3 := List.take_append_drop (x.length - 1) x.cps.toList
  rw [h2] at h3
  exact h3.symm
theorem onC_next {x nm : Str} {c t c2 : Nat} (hx : Wd x) (hn : Wd nm) (h : nm.cps.toList = onC x c t) (e : nm.cps.toList[nm.length - 1]? = some (letC c2)) : (cutS nm none (some ((nm.length - 1 : Nat) : Int)) ++ letS (c2 + 1)).cps.toList = onC x c (t + 1) := by
  have hl := onC_len hx c t
  have e1 : nm.length = x.length := by rw [len_codes, h, hl]
  have hp := hx.pos
  have e2 := cut_hi (x := nm) (p := nm.length - 1) (by omega)
  have tk : (x.cps.toList.take (x.length - 1)).length = x.length - 1 := by have := len_codes x; rw [List.length_take]; omega
  rw [app_codes, e2, letS_codes, e1, h]
  rw [e1, h] at e
  unfold onC at e ⊢
  rw [List.getElem?_append_right (by omega), tk, Nat.sub_self] at e
  have e3 : letC (c + t) = letC c2 := Option.some.inj e
  have e4 := letC_inj e3
  rw [List.take_append_of_le_length (by omega), List.take_of_length_le (by omega)]
  congr 2
  unfold letC
  rw [show (c2 + 1) % 26 = (c + (t + 1)) % 26 by omega]
theorem codes_eq {x y : Str} (h : x.cps.toList = y.cps.toList) : x = y := by
  cases x; cases y
  congr 1
  exact Array.toList_inj.mp h
theorem nodup_le {α : Type} [DecidableEq α] : ∀ {l k : List α}, l.Nodup → (∀ x ∈ l, x ∈ k) → l.length ≤ k.length
  | [], _, _, _ => Nat.zero_le _
  | x :: l, k, nd, h => by
    obtain ⟨h1, h2⟩ := List.nodup_cons.mp nd
    have hx := h x List.mem_cons_self
    have := nodup_le (l := l) (k := k.erase x) h2 fun y hy => (List.mem_erase_of_ne (fun z => h1 (by rw [← z]; exact hy))).mpr (h y (List.mem_cons_of_mem _ hy))
    rw [List.length_erase_of_mem hx] at this
    have := List.length_pos_of_mem hx
    rw [List.length_cons]; omega
theorem not_all {l : List Str} {x : Str} {c n : Nat} (hn : n ≤ 4) (hl : l.length < n) (h : ∀ s < n, ∃ y ∈ l, y.cps.toList = onC x c s) : False := by
  have nd : ((List.range n).map fun s => (⟨(onC x c s).toArray⟩ : Str)).Nodup := by
    refine List.pairwise_map.mpr (List.Pairwise.imp_of_mem ?_ (List.nodup_range (n := n)))
    intro a b ha hb ne e
    have ha := List.mem_range.mp ha
    have hb := List.mem_range.mp hb
    have e2 : onC x c a = onC x c b := by
      have := congrArg (fun z : Str => z.cps.toList) e
      simpa using this
    exact ne (onC_inj (by omega) (by omega) e2)
  have := nodup_le (k := l) nd fun y hy => by
    obtain ⟨s, hs, rfl⟩ := List.mem_map.mp hy
    obtain ⟨y, hy, ey⟩ := h s (List.mem_range.mp hs)
    have : y = ⟨(onC x c s).toArray⟩ := codes_eq (by rw [ey])
    rw [← this]; exact hy
  rw [List.length_map, List.length_range] at this
  omega
def bxL (b : Box) : Nat → Box
  | 0 => b
  | i + 1 => tkB (bxL b i) 26
def Pna (es : List Ent) (μ : Mem) : Prop := ∃ (b : Addr) (n : Nat) (bx : Box), es = [.m b, .d (.int (n : Int))] ∧ μ = [(b, .lst bx.ds)] ∧ n ≤ 4
def Qna (es : List Ent) (μ : Mem) (d : PyData) (μ' : Mem) : Prop := ∀ (b : Addr) (n : Nat) (bx : Box), es = [.m b, .d (.int (n : Int))] → μ = [(b, .lst bx.ds)] → ∃ (l : List Str) (bx' : Box), d = .list (l.map .str) ∧ l.length = n ∧ (∀ x ∈ l, Wd x) ∧ l.Nodup ∧ μ' = [(b, .lst bx'.ds)]
section
variable {P : Program} {w : World} {K : PySem.W.Frag} {mg : Str → Option Value} {base : Heap}
abbrev nNa : List Str := ["_law_box_here", "_law_many", "_law_turn", "_law_letters", "_law_found", "_law_kind", "_law_step", "_law_name", "_law_place"]
theorem scNa : FnScope nNa ["_law_box_here", "_law_many"] (defScope sNa) := ⟨rfl, rfl, rfl, by decide +kernel, rfl, by decide +kernel, by decide +kernel⟩
theorem ok_na {f : Addr} {fd : FuncData} (T : Txt mg) (F : Fun K "_law_names" "_law_names" sNa f fd) {f1 f2 f3 : Addr} {fd1 fd2 fd3 : FuncData} (H1 : Has K mg "_law_take" sTk ["_law_box_here", "_law_many"] f1 fd1) (H2 : Has K mg "_law_letter" sLe ["_law_box_here"] f2 fd2) (H3 : Has K mg "_law_pick" sPk ["_law_box_here", "_law_some"] f3 fd3) : FnOk P w K mg base CX0 3 f fd ["_law_box_here", "_law_many"] (spX K 2 Pna Qna) := by
  have G1 : FnOk P w K mg base CX0 1 f1 fd1 ["_law_box_here", "_law_many"] (spW K 2 Rtk) := ok_tk T H1.F
  have G2 : FnOk P w K mg base CX0 2 f2 fd2 ["_law_box_here"] (spW K 1 Rle) := ok_le T H2.F H1
  have G3 : FnOk P w K mg base CX0 2 f3 fd3 ["_law_box_here", "_law_some"] (spE K 2 Rpk) := ok_pk T H3.F H1
  refine def_X F scNa (by decide) rfl fun cdv A outer s H E hr => ?_
  have nd := scNa.nd
  refine ⟨_, (pss_cons (ps_par (i := 3) (j := 4) (by rfl) nd rfl rfl (by decide) rfl rfl (pa_cons pe_str (pa_cons (pe_lst pa_nil) pa_nil)) (by rfl))
 (pss_cons (ps_for PassesOwn.never rfl (pi_range1 (by rfl) T.range (pa_cons (pv 1) pa_nil)) (pg_name (i := 2) nd rfl (Or.inl rfl)) (pss_cons (ps_set (i := 5) nd rfl (Or.inl rfl) (pe_call G1 (hr.mono (by decide)) rfl H1.m H1.F.kp H1.b .nil pass0 (pa_cons (pv 0) (pa_cons pe_int pa_nil))))
 (pss_cons (ps_if (PW.pt (pw_or (pt_cmpR (op_eqD hr.units) (pv 4) (pe_lst pa_nil) (nomark _)) (pw_or1 (pt_cmpR op_lt (pv 5) pe_int (nomark _))))) (pss_one (ps_set (i := 7) nd rfl (Or.inl rfl) (pe_bm PySem.F.plainAttrs_str PySem.F.slot_str_join PySem.F.type_str_join mt_join pe_str (pa_cons (pe_lc (own := [("_law_place", 8)]) (g := (gName 8)) (tt := tYes) rfl nd (pi_range1 (by rfl) T.range (pa_cons (pe_op op_add pe_int (pe_call G1 (hr.mono (by decide)) rfl H1.m H1.F.kp H1.b .nil pass0 (pa_cons (pv 0) (pa_cons pe_int pa_nil)))) pa_nil)) (blkOk_by (N := nNa) (sc := defScope sNa) (by decide +kernel)) (fun _ _ _ _ _ => (pg_name (i := 8) nd rfl (Or.inl rfl))) (fun _ _ _ _ _ => pts_nil) (fun _ _ _ _ _ => (pe_call G2 hr rfl H2.m H2.F.kp H2.b .nil pass0 (pa_cons (pv 0) pa_nil)))) pa_nil)))) (pss_cons (ps_set (i := 7) nd rfl (Or.inl rfl) (pe_call G3 hr rfl H3.m H3.F.kp H3.b .nil pass0 (pa_cons (pv 0) (pa_cons (pv 4) pa_nil))))
 (pss_cons (ps_set (i := 8) nd rfl (Or.inl rfl) (pe_call G1 (hr.mono (by decide)) rfl H1.m H1.F.kp H1.b .nil pass0 (pa_cons (pv 0) (pa_cons (pe_callB call_len_str (by rfl) T.len PySem.boot_len (pa_cons (pv 7) pa_nil)) pa_nil))))
 (pss_one (ps_set (i := 7) nd rfl (Or.inl rfl) (pe_ifExp (pt_cmpR (op_eqD hr.units) (pv 5) pe_int (nomark _)) (pe_slice sl_str (pv 7) po_none (po_some (pe_op op_add (pv 8) pe_int))) (pe_op op_add_str (pe_op op_add_str (pe_slice sl_str (pv 7) po_none (po_some (pv 8))) (pe_call G2 hr rfl H2.m H2.F.kp H2.b .nil pass0 (pa_cons (pv 0) pa_nil))) (pe_slice sl_str (pv 7) (po_some (pe_op op_add (pv 8) pe_int)) po_none))))))))
 (pss_cons (ps_for PassesOwn.never rfl (pi_range1 (by rfl) T.range (pa_cons (pv 1) pa_nil)) (pg_name (i := 6) nd rfl (Or.inl rfl)) (pss_one (ps_if (pt_cmpR op_in_seq (pv 7) (pv 4) (by with_unfolding_all rfl)) (pss_one (ps_set (i := 7) nd rfl (Or.inl rfl) (pe_op op_add_str (pe_slice sl_str (pv 7) po_none (po_some (pe_op op_sub (pe_callB call_len_str (by rfl) T.len PySem.boot_len (pa_cons (pv 7) pa_nil)) pe_int))) (pe_ix ix_str (pv 3) (pe_op op_mod (pe_op op_add (pe_bmS PySem.F.plainAttrs_str PySem.F.slot_str_index PySem.F.type_str_index (mt_indexX rfl takes0) (pv 3) (pa_cons (pe_ix ix_str (pv 7) (pe_op op_sub (pe_callB call_len_str (by rfl) T.len PySem.boot_len (pa_cons (pv 7) pa_nil)) pe_int) (fun _ _ => rfl)) pa_nil)) pe_int) pe_int) (fun _ _ => rfl))))) pss_nil)))
 (pss_one (ps_expr (pe_bm PySem.F.plainAttrs_list PySem.F.slot_list_append PySem.F.type_list_append mt_append (pv 4) (pa_cons (pv 7) pa_nil))))))))
 (pss_one (ps_ret (pv 4))))), ?_⟩
  rintro M G B es μ _ ⟨b, n, bx, rfl, rfl, hn⟩ D fin
  show Run _ _ D M [.m b, .d (.int (n : Int)), .u, .u, .u, .u, .u, .u, .u] [(b, .lst bx.ds)]
  refine q_parN2 fun f hfM => ?_
  show Run _ _ D (f :: M) [.m b, .d (.int (n : Int)), .u, .d (.str letters), .m f, .u, .u, .u, .u] [(f, .lst []), (b, .lst bx.ds)]
  refine q_for (i_rng1 (n := (n : Int)) (a_cons (x_vd rfl) a_nil) (by omega) (by omega))
    (fun i δ μ => ∃ (l : List Str) (bx' : Box) (e2 e5 e6 e7 e8 : Ent), δ = [.m b, .d (.int (n : Int)), e2, .d (.str letters), .m f, e5, e6, e7, e8] ∧ μ = [(f, .lst (l.map .str)), (b, .lst bx'.ds)] ∧ l.length = i ∧ l.Nodup ∧ ∀ x ∈ l, Wd x)
    ⟨[], bx, _, _, _, _, _, rfl, rfl, rfl, List.nodup_nil, fun x h => by simp at h⟩ ?_ ?_
  · rintro B' hB i d δ1 μ1 hi ⟨l, bx1, e2, e5, e6, e7, e8, rfl, rfl, hl, hnd, hw⟩
    have hil := (List.getElem?_eq_some_iff.mp hi).1
    rw [rngD_length] at hil
    refine ⟨[2], _, tg_name, ?_⟩
    show Run _ _ _ _ [.m b, .d (.int (n : Int)), .d d, .d (.str letters), .m f, e5, e6, e7, e8] [(f, .lst (l.map .str)), (b, .lst bx1.ds)]
    have hv4 := tkV_lt (b := bx1) (n := 4) (by decide)
    refine q_asg (x_takeJ 1 (x_vm rfl) x_int rfl (by decide) (by decide)) ?_
    show Run _ _ _ _ [.m b, .d (.int (n : Int)), .d d, .d (.str letters), .m f, .d (.int (tkV bx1 4)), e6, e7, e8] [(f, .lst (l.map .str)), (b, .lst (tkB bx1 4).ds)]
    generalize tkV bx1 4 = kind at hv4 ⊢
    generalize tkB bx1 4 = bx2
    refine q_ifJ2 (b := decide (l = [] ∨ kind < 2)) (fun δ μ => ∃ (nm : Str) (bx' : Box) (e8 : Ent), δ = [.m b, .d (.int (n : Int)), .d d, .d (.str letters), .m f, .d (.int kind), e6, .d (.str nm), e8] ∧ μ = [(f, .lst (l.map .str)), (b, .lst bx'.ds)] ∧ Wd nm)
      (t_is (t_or (t_test (x_op (x_vm rfl) (x_lst (ds := []) a_nil (by simp)) (o_eqD (.m (j := 0) rfl) (.d _) ?_ ((shp_nil 0).shaped (by decide))))) (fun _ => t_test (x_op (x_vd rfl) x_int o_B0)) (fun _ => rfl)) ?_) (fun hb D' kk => ?_) (fun hb D' kk => ?_) ?_
    · exact (shp_list (n := 0) fun d hd => by
        obtain ⟨x, hx, rfl⟩ := List.mem_map.mp hd
        exact shp_str 0 (hw x hx).tok).shaped (by decide)
    · rw [eqv_empty]
      cases l with
      | nil => simp
      | cons a l => simp
    · have hv5 := tkV_lt (b := bx2) (n := 5) (by decide)
      obtain ⟨m, hm⟩ : ∃ m : Nat, 1 + tkV bx2 5 = (m : Int) := ⟨(1 + tkV bx2 5).toNat, by omega⟩
      refine r_asg (x_is (x_join (ys := (List.range m).map fun i => letS (tkV (bxL (tkB bx2 5) i) 26).toNat) x_str (x_lc (fun i => [(f, .lst (l.map .str)), (b, .lst (bxL (tkB bx2 5) i).ds)]) (fun _ => true) (fun i => .str (letS (tkV (bxL (tkB bx2 5) i) 26).toNat)) (i_rng1 (n := 1 + tkV bx2 5) (a_cons (x_op x_int (x_takeJ 1 (x_vm rfl) x_int rfl (by decide) (by decide)) o_I0) a_nil) (by omega) (by omega)) (by rw [rngD_length]; omega) fun i d hd G' B'' D'' => ?_) ?_ ?_) rfl) (kk _ _ ⟨_, _, _, rfl, rfl, wd_join _ (by omega) (by omega)⟩)
      · exact ⟨[8], _, _, tg_name, fun k hk => hk, t_yes, fun _ => x_letter 1 (x_vm rfl) rfl, fun z => nomatch z⟩
      · rw [lcD_all, rngD_length, hm, List.map_map]
        exact .d _
      · rw [List.map_map]
        have : ((List.range m).map ((fun x : Str => x.length) ∘ fun i => letS (tkV (bxL (tkB bx2 5) i) 26).toNat)).sum = m := by
          rw [show ((fun x : Str => x.length) ∘ fun i => letS (tkV (bxL (tkB bx2 5) i) 26).toNat) = fun _ => 1 from rfl]
          rw [List.map_const', List.length_range, List.sum_replicate_nat, Nat.mul_one]
        rw [this, List.length_map, List.length_range]
        have : (Str.ofString "").length = 0 := by decide
        rw [this]; omega
    · have hb := of_decide_eq_false hb
      have l0 : 0 < l.length := List.length_pos_iff.mpr fun z => hb (.inl z)
      have hvp := tkV_lt (b := bx2) (n := (l.map PyData.str).length) (by rw [List.length_map]; omega)
      rw [List.length_map] at hvp
      obtain ⟨x0, hx0⟩ : ∃ x0, l[(tkV bx2 (l.map PyData.str).length).toNat]? = some x0 := ⟨_, List.getElem?_eq_getElem (by rw [List.length_map]; omega)⟩
      have w0 := hw x0 (List.mem_of_getElem? hx0)
      refine q_asg (x_pickM (x_vm rfl) (x_vm rfl) (by rw [List.length_map]; exact l0) (by rw [List.length_map]; omega) (ts_get hx0)) ?_
      show Run _ _ _ _ [.m b, .d (.int (n : Int)), .d d, .d (.str letters), .m f, .d (.int kind), e6, .d (.str x0), e8] [(f, .lst (l.map .str)), (b, .lst (tkB bx2 (l.map PyData.str).length).ds)]
      generalize tkB bx2 (l.map PyData.str).length = bx3
      have hvq := tkV_lt (b := bx3) (n := x0.length) (by have := w0.pos; omega)
      obtain ⟨p, hp⟩ : ∃ p : Nat, tkV bx3 x0.length = (p : Int) := ⟨(tkV bx3 x0.length).toNat, by omega⟩
      have z5 : x0.length ≤ 100000 := by have := w0.small; omega
      have z0 := w0.pos
      refine q_asg (e := .d (.int (p : Int))) (x_is (x_takeJ 1 (x_vm rfl) (x_cbP (a_cons (x_vd rfl) a_nil) (c_lenS z5)) rfl (by omega) (by omega)) (by rw [hp])) ?_
      show Run _ _ _ _ [.m b, .d (.int (n : Int)), .d d, .d (.str letters), .m f, .d (.int kind), e6, .d (.str x0), .d (.int (p : Int))] [(f, .lst (l.map .str)), (b, .lst (tkB bx3 x0.length).ds)]
      generalize tkB bx3 x0.length = bx4
      have n1 : ((p : Int) + 1) = ((p + 1 : Nat) : Int) := by omega
      have hpl : p < x0.length := by omega
      by_cases hk : kind = 2
      · refine r_asg (x_if (b := true) (t_is (t_test (x_op (x_vd rfl) x_int (o_eqD (.d _) (.d _) ((shp_int 0 _).shaped (by decide)) ((shp_int 0 _).shaped (by decide))))) (by rw [eqv_int, hk]; rfl)) (fun _ => x_slS (x_vd rfl) p_none (p_some (x_op (x_vd rfl) x_int o_I0)) z5) (fun z => nomatch z)) (kk _ _ ⟨_, bx4, _, rfl, rfl, ?_⟩)
        rw [n1]; exact wd_take w0 hpl
      · have hv26 := tkV_lt (b := bx4) (n := 26) (by decide)
        have w1 := wd_put w0 hpl (tkV bx4 26).toNat
        have lc1 : (cutS x0 none (some (p : Int))).length ≤ 5 := by have := w0.small; rw [len_codes, cut_hi (by omega), List.length_take, ← len_codes]; omega
        have lc2 : (cutS x0 (some ((p + 1 : Nat) : Int)) none).length ≤ 5 := by have := w0.small; rw [len_codes, cut_lo (by omega), List.length_drop, ← len_codes]; omega
        refine r_asg (x_if (b := false) (t_is (t_test (x_op (x_vd rfl) x_int (o_eqD (.d _) (.d _) ((shp_int 0 _).shaped (by decide)) ((shp_int 0 _).shaped (by decide))))) (by rw [eqv_int]; exact beq_eq_false_iff_ne.mpr hk)) (fun z => nomatch z) (fun _ => x_op (x_op (x_slS (x_vd rfl) p_none (p_some (x_vd rfl)) z5) (x_letter 1 (x_vm rfl) rfl) (o_addS (by rw [letS_len]; omega))) (x_slS (x_vd rfl) (p_some (x_op (x_vd rfl) x_int o_I0)) p_none z5) (o_addS (by rw [n1, app_len, letS_len]; omega)))) (kk _ _ ⟨_, _, _, rfl, rfl, ?_⟩)
        rw [n1]; exact w1
    · rintro δ1 μ1 ⟨nm0, bx3, e8, rfl, rfl, hnm0⟩
      obtain ⟨c0, hc0, ec0⟩ := wd_end hnm0
      refine q_for (i_rng1 (n := (n : Int)) (a_cons (x_vd rfl) a_nil) (by omega) (by omega))
        (fun j δ μ => ∃ (nm : Str) (e6 : Ent) (t : Nat), δ = [.m b, .d (.int (n : Int)), .d d, .d (.str letters), .m f, .d (.int kind), e6, .d (.str nm), e8] ∧ μ = [(f, .lst (l.map .str)), (b, .lst bx3.ds)] ∧ Wd nm ∧ t ≤ j ∧ nm.cps.toList = onC nm0 c0 t ∧ (∀ s < t, ∃ y ∈ l, y.cps.toList = onC nm0 c0 s) ∧ (t < j → nm ∉ l)) ⟨nm0, _, 0, rfl, rfl, hnm0, Nat.le_refl _, onC_zero hnm0 ec0, fun s hs => absurd hs (Nat.not_lt_zero _), fun z => absurd z (Nat.lt_irrefl _)⟩ ?_ ?_
      · rintro B'' hB' j dj δ1 μ1 hj ⟨nm, e6, t, rfl, rfl, hnm, ht, hcd, hbefore, hout⟩
        refine ⟨[6], _, tg_name, ?_⟩
        show Run _ _ _ _ [.m b, .d (.int (n : Int)), .d d, .d (.str letters), .m f, .d (.int kind), .d dj, .d (.str nm), e8] [(f, .lst (l.map .str)), (b, .lst bx3.ds)]
        refine r_if (t_test (x_op (x_vd rfl) (x_vm rfl) (o_inL (.m (j := 0) rfl)))) (fun hb => ?_) fun hb => ?_
        · have hin : nm ∈ l := of_decide_eq_true hb
          have htj : t = j := by
            rcases Nat.lt_or_ge t j with z | z
            · exact absurd hin (hout z)
            · omega
          subst htj
          obtain ⟨c, hc, ec⟩ := wd_end hnm
          have z5 : nm.length ≤ 100000 := by have := hnm.small; omega
          have hp := hnm.pos
          have n1 : ((nm.length : Int) - 1) = ((nm.length - 1 : Nat) : Int) := by omega
          have lc1 : (cutS nm none (some ((nm.length - 1 : Nat) : Int))).length ≤ 5 := by have := hnm.small; rw [len_codes, cut_hi (by omega), List.length_take, ← len_codes]; omega
          have hnext := onC_next hnm0 hnm hcd ec
          have em : letS (((c : Int) + 1) % 26).toNat = letS (c + 1) := by
            unfold letS letC
            rw [show (((c : Int) + 1) % 26).toNat % 26 = (c + 1) % 26 by omega]
          refine r_asg (x_op (x_slS (x_vd rfl) p_none (p_some (x_op (x_cbP (a_cons (x_vd rfl) a_nil) (c_lenS z5)) x_int o_I0)) z5) (x_let (x_vd rfl) (x_op (x_op (x_sindex (y := letS c) (x_vd rfl) (x_op (x_vd rfl) (x_op (x_cbP (a_cons (x_vd rfl) a_nil) (c_lenS z5)) x_int o_I0) (o_ixS z5 (by rw [n1]; exact atI_nat ec))) (let_index c hc)) x_int o_I0) x_int (o_I (by decide))) (by omega) (by omega)) (o_addS (by rw [n1, letS_len]; omega))) fun σ H o => ⟨_, _, ⟨_, _, t + 1, rfl, rfl, ?_, Nat.le_refl _, ?_, ?_, fun z => absurd z (Nat.lt_irrefl _)⟩, o⟩
          · rw [n1]; exact wd_last hnm _
          · rw [n1, em]; exact hnext
          · intro s hs
            rcases Nat.lt_or_ge s t with z | z
            · exact hbefore s z
            · have : s = t := by omega
              subst this
              exact ⟨nm, hin, hcd⟩
        · have hno : nm ∉ l := of_decide_eq_false hb
          exact r_next fun σ H o => ⟨_, _, ⟨_, _, t, rfl, rfl, hnm, by omega, hcd, hbefore, fun _ => hno⟩, o⟩
      · rintro δ1 μ1 ⟨nm, e6, t, rfl, rfl, hnm, ht, hcd, hbefore, hout⟩
        rw [rngD_length] at ht hout
        have hno : nm ∉ l := by
          rcases Nat.lt_or_ge t ((n : Int)).toNat with z | z
          · exact hout z
          · exact (not_all (n := n) hn (by omega) fun s hs => hbefore s (by omega)).elim
        refine r_app (j := 0) (d := .str nm) (x_vm rfl) (x_vd rfl) rfl rfl (by rw [List.length_map]; omega) fun σ H o => ⟨_, _, ⟨l ++ [nm], bx3, _, _, _, _, _, rfl, ?_, by rw [List.length_append, hl]; rfl, ?_, fun x hx => ?_⟩, o⟩
        · rw [List.map_append]; rfl
        · refine List.nodup_append.mpr ⟨hnd, List.nodup_cons.mpr ⟨by simp, List.nodup_nil⟩, fun a ha b hb e => ?_⟩
          rw [List.mem_singleton.mp hb] at e
          exact hno (by rw [← e]; exact ha)
        · rcases List.mem_append.mp hx with q | q
          · exact hw x q
          · rw [List.mem_singleton.mp q]; exact hnm
  · rintro δ1 μ1 ⟨l, bx1, e2, e5, e6, e7, e8, rfl, rfl, hl, hnd, hw⟩
    rw [rngD_length] at hl
    refine r_retEM (μ' := [(b, .lst bx1.ds)]) (x_vm rfl) List.mem_cons_self hfM (fun z hz => List.mem_cons_of_mem _ hz) (fin _ _ (fun b' n' bx0 he hm => ?_) rfl)
    have e0 : Ent.m b = .m b' := (List.cons.inj he).1
    cases e0
    have e1 : Ent.d (.int (n : Int)) = .d (.int (n' : Int)) := (List.cons.inj (List.cons.inj he).2).1
    have e2 : (n : Int) = (n' : Int) := by cases e1; rfl
    exact ⟨l, bx1, rfl, by omega, hw, hnd, rfl⟩
end
end K02
namespace FD
open PySem L2 Evl
section
variable {C : Cfg} {M : List Addr} {δ : List Ent} {μ : Mem} {σ : L2.St} {H : Hp} {p : Addr} {ds : List PyData} {i : Nat} {D : Ends} {t : TS}
/-- a list that nobody changes any more is data -/
theorem Ok.settle (o : Ok C (p :: M) δ ((p, .lst ds) :: μ) σ H) (pM : p ∉ M) (h0 : ∀ a ∈ C.M0, a ∈ M) (hi : δ[i]? = some (.m p)) : Ok C M (δ.set i (.d (.list ds))) μ σ H := by
  have nd : p ∉ μ.map (·.1) ∧ (μ.map (·.1)).Nodup := List.nodup_cons.mp o.nd
  have o1 : Ok C (p :: M) δ μ σ H := o.mems (fun q hq => List.mem_cons_of_mem _ hq) nd.2
  have o2 : Ok C M δ μ σ H := o1.drop (fun a ha => List.mem_cons_of_mem _ ha) (fun q hq => (List.mem_cons.mp (o.mem q (List.mem_cons_of_mem _ hq)).1).elim (fun z => absurd (List.mem_map.mpr ⟨q, hq, z⟩) nd.1) id) h0
  obtain ⟨_, _, vs, q1, q2⟩ := o.mem _ List.mem_cons_self
  obtain ⟨v, hv, ev⟩ := o.slot i _ hi (fun z => nomatch z)
  have ev : v = .ref p := ev
  subst ev
  have dp : EntOk C.K (hide M H) (.d (.list ds)) (.ref p) := .lst (sq_of (by rw [hide_out pM]; exact q1)) (dpAll_mono (hide_sub fun a ha => List.mem_cons_of_mem _ ha) _ _ q2)
  have o3 := o2.set i dp
  have e : σ.set i (some (.ref p)) = σ := by
    refine List.ext_getElem? fun j => ?_
    by_cases ej : i = j
    · subst ej
      rw [List.getElem?_set_self (List.getElem?_eq_some_iff.mp hv).1, hv]
    · rw [List.getElem?_set_ne ej]
  rwa [e] at o3
theorem run_settle (pM : p ∉ M) (h0 : ∀ a ∈ C.M0, a ∈ M) (hi : δ[i]? = some (.m p)) (h : FD.Run C t D M (δ.set i (.d (.list ds))) μ) : FD.Run C t D (p :: M) δ ((p, .lst ds) :: μ) := fun σ H o => h σ H (o.settle pM h0 hi)
theorem run_forget {mo : MO} (h0 : ∀ a ∈ C.M0, a ∈ M) (h : FD.Run C t D M δ μ) : FD.Run C t D (p :: M) δ ((p, mo) :: μ) := fun σ H o => by
  have nd : p ∉ μ.map (·.1) ∧ (μ.map (·.1)).Nodup := List.nodup_cons.mp o.nd
  have o1 : Ok C (p :: M) δ μ σ H := o.mems (fun q hq => List.mem_cons_of_mem _ hq) nd.2
  exact h σ H (o1.drop (fun a ha => List.mem_cons_of_mem _ ha) (fun q hq => (List.mem_cons.mp (o.mem q (List.mem_cons_of_mem _ hq)).1).elim (fun z => absurd (List.mem_map.mpr ⟨q, hq, z⟩) nd.1) id) h0)
end
end FD
namespace K02
open PySem L2 FD Evl
/-! ### _law_row, _law_struck -/
def bxP (b : Box) (n : Nat) : Nat → Box
  | 0 => b
  | i + 1 => tkB (bxP b n i) (n : Int)
def rowV (bx : Box) (l : List Str) (m : Nat) : List Str := (List.range (tkV bx ((m : Int) + 1)).toNat).map fun i => l.getD (tkV (bxP (tkB bx ((m : Int) + 1)) l.length i) (l.length : Int)).toNat ""
def rowB (bx : Box) (l : List Str) (m : Nat) : Box := bxP (tkB bx ((m : Int) + 1)) l.length (tkV bx ((m : Int) + 1)).toNat
theorem rowV_len (bx : Box) (l : List Str) (m : Nat) : (rowV bx l m).length ≤ m := by
  have := tkV_lt (b := bx) (n := (m : Int) + 1) (by omega)
  unfold rowV
  rw [List.length_map, List.length_range]; omega
theorem pick_get {b : Box} {l : List Str} (h : 0 < l.length) : l[(tkV b (l.length : Int)).toNat]? = some (l.getD (tkV b (l.length : Int)).toNat "") := by
  have := tkV_lt (b := b) (n := (l.length : Int)) (by omega)
  rw [List.getD_eq_getElem?_getD, List.getElem?_eq_getElem (by omega)]; rfl
theorem rowV_mem {bx : Box} {l : List Str} {m : Nat} (h : 0 < l.length) : ∀ x ∈ rowV bx l m, x ∈ l := fun x hx => by
  obtain ⟨i, _, rfl⟩ := List.mem_map.mp hx
  exact List.mem_of_getElem? (pick_get h)
theorem x_pickS {C : Cfg} {M : List Addr} {δ : List Ent} {tb tn : TE} {E : XK} {p : Addr} {b : Box} {l : List Str} (h1 : EvX C tb M δ [(p, .lst b.ds)] [(p, .lst b.ds)] (.m p)) (h2 : EvX C tn M δ [(p, .lst b.ds)] [(p, .lst b.ds)] (.d (.list (l.map .str)))) (h0 : 0 < l.length) (h3 : l.length < 100000) :
    EvX C (tCall (spE C.K 2 Rpk) [] E (tCons tb (tCons tn tNil))) M δ [(p, .lst b.ds)] [(p, .lst (tkB b (l.length : Int)).ds)] (.d (.str (l.getD (tkV b (l.length : Int)).toNat ""))) := by
  have hlen : (l.map PyData.str).length = l.length := List.length_map ..
  have h := x_pickD (E := E) (xs := l.map .str) (d := .str (l.getD (tkV b (l.length : Int)).toNat "")) h1 h2 (by rw [hlen]; exact h0) (by rw [hlen]; omega) (by rw [hlen]; exact ts_get (pick_get h0))
  rw [hlen] at h
  exact h
def Rro (es : List Ent) (μ : Mem) (e : Ent) (μ' : Mem) : Prop := ∃ (b : Addr) (bx : Box) (l : List Str) (m : Nat), es = [.m b, .d (.list (l.map .str)), .d (.int (m : Int))] ∧ μ = [(b, .lst bx.ds)] ∧ 0 < l.length ∧ l.length ≤ 100 ∧ m ≤ 100 ∧ e = .p (rowV bx l m) ∧ μ' = [(b, .lst (rowB bx l m).ds)]
def bxS (b : Box) : Nat → Box
  | 0 => b
  | i + 1 => tkB (bxS b i) 2
def strV (bx : Box) (r : List Str) : List Str := ((List.range r.length).filter fun i => decide (tkV (bxS bx i) 2 = 0)).map fun i => r.getD i ""
theorem strV_len (bx : Box) (r : List Str) : (strV bx r).length ≤ r.length := by
  unfold strV
  rw [List.length_map]
  exact Nat.le_trans (List.length_filter_le _ _) (by rw [List.length_range]; exact Nat.le_refl _)
theorem strV_mem {bx : Box} {r : List Str} : ∀ x ∈ strV bx r, x ∈ r := fun x hx => by
  obtain ⟨i, hi, rfl⟩ := List.mem_map.mp hx
  have := List.mem_range.mp (List.mem_filter.mp hi).1
  rw [List.getD_eq_getElem?_getD, List.getElem?_eq_getElem this]
  exact List.getElem_mem this
def Rst (es : List Ent) (μ : Mem) (e : Ent) (μ' : Mem) : Prop := ∃ (b : Addr) (bx : Box) (r : List Str), es = [.m b, .p r] ∧ μ = [(b, .lst bx.ds)] ∧ r.length ≤ 100 ∧ e = .p (strV bx r) ∧ μ' = [(b, .lst (bxS bx r.length).ds)]
section
variable {P : Program} {w : World} {K : PySem.W.Frag} {mg : Str → Option Value} {base : Heap}
abbrev nRo : List Str := ["_law_box_here", "_law_names_here", "_law_most", "_law_turn"]
theorem scRo : FnScope nRo ["_law_box_here", "_law_names_here", "_law_most"] (defScope sRo) := ⟨rfl, rfl, rfl, by decide +kernel, rfl, by decide +kernel, by decide +kernel⟩
theorem ok_ro {f : Addr} {fd : FuncData} (T : Txt mg) (F : Fun K "_law_row" "_law_row" sRo f fd) {f1 f2 : Addr} {fd1 fd2 : FuncData} (H1 : Has K mg "_law_take" sTk ["_law_box_here", "_law_many"] f1 fd1) (H2 : Has K mg "_law_pick" sPk ["_law_box_here", "_law_some"] f2 fd2) : FnOk P w K mg base CX0 3 f fd ["_law_box_here", "_law_names_here", "_law_most"] (spG K 3 Rro) := by
  have G1 : FnOk P w K mg base CX0 1 f1 fd1 ["_law_box_here", "_law_many"] (spW K 2 Rtk) := ok_tk T H1.F
  have G2 : FnOk P w K mg base CX0 2 f2 fd2 ["_law_box_here", "_law_some"] (spE K 2 Rpk) := ok_pk T H2.F H1
  refine def_G F scRo (by decide) rfl fun cdv A outer s H E hr => ?_
  have nd := scRo.nd
  refine ⟨_, (pss_one (ps_ret (pe_callTy cr_tupF (by rfl) T.tuple (by decide +kernel) (pa_cons (pe_lc (own := [("_law_turn", 3)]) (g := (gName 3)) (tt := tYes) rfl nd (pi_range1 (by rfl) T.range (pa_cons (pe_call G1 (hr.mono (by decide)) rfl H1.m H1.F.kp H1.b .nil pass0 (pa_cons (pv 0) (pa_cons (pe_op op_add (pv 2) pe_int) pa_nil))) pa_nil)) (blkOk_by (N := nRo) (sc := defScope sRo) (by decide +kernel)) (fun _ _ _ _ _ => (pg_name (i := 3) nd rfl (Or.inl rfl))) (fun _ _ _ _ _ => pts_nil) (fun _ _ _ _ _ => (pe_call G2 hr rfl H2.m H2.F.kp H2.b .nil pass0 (pa_cons (pv 0) (pa_cons (pv 1) pa_nil))))) pa_nil)))), ?_⟩
  rintro M G B es μ e μ' ⟨b, bx, l, m, rfl, rfl, l0, l1, m1, rfl, rfl⟩ D fin
  show Run _ _ D M [.m b, .d (.list (l.map .str)), .d (.int (m : Int)), .u] [(b, .lst bx.ds)]
  have hv := tkV_lt (b := bx) (n := (m : Int) + 1) (by omega)
  have hlen : (l.map PyData.str).length = l.length := List.length_map ..
  refine r_retG (x_cb (a_cons (x_is (x_lc (fun i => [(b, .lst (bxP (tkB bx ((m : Int) + 1)) l.length i).ds)]) (fun _ => true) (fun i => .str (l.getD (tkV (bxP (tkB bx ((m : Int) + 1)) l.length i) (l.length : Int)).toNat "")) (i_rng1 (n := tkV bx ((m : Int) + 1)) (a_cons (x_takeJ 0 (x_vm rfl) (x_op (x_vd rfl) x_int o_I0) rfl (by omega) (by omega)) a_nil) (by omega) (by omega)) (by rw [rngD_length]; omega) fun i d hd G' B'' D'' => ?_) (e1 := .d (.list ((rowV bx l m).map .str))) ?_) a_nil) (c_tupP (.d _))) (fun z hz => ?_) fin
  · exact ⟨[3], _, _, tg_name, fun k hk => hk, t_yes, fun _ => x_pickS (x_vm rfl) (x_vd rfl) l0 (by omega), fun z => nomatch z⟩
  · rw [lcD_all, rngD_length]
    unfold rowV
    rw [List.map_map]; rfl
  · rw [rngD_length]
    exact hz
end
end K02
namespace K02
open PySem L2 FD Evl
/-- the first place of x -/
def ix (x : Str) : List Str → Nat
  | [] => 0
  | a :: l => if a = x then 0 else ix x l + 1
theorem ix_at {x : Str} : ∀ {l : List Str}, x ∈ l → l[ix x l]? = some x ∧ (∀ m, m < ix x l → l[m]? ≠ some x) ∧ ix x l < l.length
  | a :: l, h => by
    unfold ix
    by_cases e : a = x
    · rw [if_pos e]
      exact ⟨by rw [e]; rfl, fun m hm => absurd hm (Nat.not_lt_zero _), Nat.succ_pos _⟩
    · rw [if_neg e]
      obtain ⟨h1, h2, h3⟩ := ix_at ((List.mem_cons.mp h).elim (fun z => absurd z.symm e) id)
      refine ⟨by simpa using h1, fun m hm => ?_, by simpa using h3⟩
      cases m with
      | zero => exact fun z => e (by simpa using z)
      | succ m => simpa using h2 m (by omega)
def pI (ps : List Nat) : List Int := List.map (fun (n : Nat) => (n : Int)) ps
/-- the places behind the first such deed, of the first i rows -/
def phT (ks : List (List Str)) (ps : List Nat) (x : Str) : Nat → Option (List Nat)
  | 0 => some []
  | i + 1 => match phT ks ps x i with
    | none => none
    | some l => if x ∈ (ks.getD i []).drop (ps.getD i 0) then some (l ++ [ps.getD i 0 + ix x ((ks.getD i []).drop (ps.getD i 0)) + 1]) else none
theorem phT_none {ks : List (List Str)} {ps : List Nat} {x : Str} {i : Nat} (h : phT ks ps x i = none) : ∀ j, i ≤ j → phT ks ps x j = none := by
  intro j hj
  induction j with
  | zero =>
    have : i = 0 := by omega
    rw [this] at h; exact h
  | succ j ih =>
    by_cases e : i = j + 1
    · rw [← e]; exact h
    · unfold phT
      rw [ih (by omega)]
def phE (o : Option (List Nat)) : Ent := match o with
  | none => .d .none
  | some l => .h ((pI l).map .int)
theorem cutK_from (k : List Str) (p : Nat) : cutK k (some (p : Int)) none = k.drop p := by
  unfold cutK
  have e1 : HT.sIx k.length 0 (some (p : Int)) = min p k.length := HT.sIx_nat _ _ _
  have e2 : HT.sIx k.length k.length none = k.length := rfl
  rw [e1, e2]
  by_cases h : p ≤ k.length
  · rw [Nat.min_eq_left h, List.take_of_length_le (by rw [List.length_drop]; exact Nat.le_refl _)]
  · rw [Nat.min_eq_right (by omega), List.drop_length, List.drop_eq_nil_of_le (by omega)]
    simp
def Rpb (es : List Ent) (μ : Mem) (e : Ent) (μ' : Mem) : Prop := ∃ (ks : List (List Str)) (ps : List Nat) (x : Str), es = [.rw ks, .h ((pI ps).map .int), .d (.str x)] ∧ μ = [] ∧ μ' = [] ∧ ks.length = ps.length ∧ ks.length ≤ 1000 ∧ e = phE (phT ks ps x ks.length)
section
variable {P : Program} {w : World} {K : PySem.W.Frag} {mg : Str → Option Value} {base : Heap}
abbrev nPb : List Str := ["rows", "places", "deed", "found", "row", "place", "rest"]
theorem scPb : FnScope nPb ["rows", "places", "deed"] (defScope sPb) := ⟨rfl, rfl, rfl, by decide +kernel, rfl, by decide +kernel, by decide +kernel⟩
theorem ok_pb {f : Addr} {fd : FuncData} (T : Txt mg) (F : Fun K "places_behind" "places_behind" sPb f fd) : FnOk P w K mg base CX0 1 f fd ["rows", "places", "deed"] (spG K 3 Rpb) := by
  refine def_G F scPb (by decide) rfl fun cdv A outer s H E hr => ?_
  have nd := scPb.nd
  refine ⟨_, (pss_cons (ps_set (i := 3) nd rfl (Or.inl rfl) (pe_lst pa_nil))
 (pss_cons (ps_for PassesOwn.never rfl (RZ.pi_zipA (by rfl) T.zip (pa_cons (pv 0) (pa_cons (pv 1) pa_nil))) (pg_tup rfl (pgs_cons (pg_name (i := 4) nd rfl (Or.inl rfl)) (pgs_cons (pg_name (i := 5) nd rfl (Or.inl rfl)) pgs_nil))) (pss_cons (ps_set (i := 6) nd rfl (Or.inl rfl) (pe_slice sl_F (pv 4) (po_some (pv 5)) po_none))
 (pss_cons (ps_if (pt_cmpR op_notIn_seq (pv 2) (pv 6) (by with_unfolding_all rfl)) (pss_one (ps_ret pe_non)) pss_nil)
 (pss_one (ps_expr (pe_bm PySem.F.plainAttrs_list PySem.F.slot_list_append PySem.F.type_list_append mt_append (pv 3) (pa_cons (pe_op op_add (pe_op op_add (pv 5) (pe_bmt PySem.F.plainAttrs_tuple PySem.F.slot_tuple_index PySem.F.type_tuple_index mt_tup_index (pv 6) (pa_cons (pv 2) pa_nil))) pe_int) pa_nil)))))))
 (pss_one (ps_ret (pe_callTy call_tuple_of (by rfl) T.tuple (by decide +kernel) (pa_cons (pv 3) pa_nil)))))), ?_⟩
  rintro M G B es μ e μ' ⟨ks, ps, x, rfl, rfl, rfl, hl, hk, rfl⟩ D fin
  show Run _ _ D M [.rw ks, .h ((pI ps).map .int), .d (.str x), .u, .u, .u, .u] []
  refine q_new (ds := []) a_nil (by simp) fun p hp => ?_
  show Run _ _ D (p :: M) [.rw ks, .h ((pI ps).map .int), .d (.str x), .m p, .u, .u, .u] [(p, .lst [])]
  refine r_seq (r_forZ (ks := ks) (ps := pI ps) (i1 := 4) (i2 := 5) (a_cons (x_vrw rfl) (a_cons (x_vht rfl) a_nil)) (by unfold pI; rw [List.length_map]; exact hl)
    (fun i δ μ => ∃ e4 e5 e6 l, δ = [.rw ks, .h ((pI ps).map .int), .d (.str x), .m p, e4, e5, e6] ∧ phT ks ps x i = some l ∧ l.length = i ∧ μ = [(p, .lst ((pI l).map .int))]) ⟨_, _, _, [], rfl, rfl, rfl, rfl⟩ ?_ ?_)
  · rintro B' hB i k q δ1 μ1 hki hqi ⟨e4, e5, e6, l, rfl, hph, hll, rfl⟩
    have hil := (List.getElem?_eq_some_iff.mp hki).1
    have ek : ks.getD i [] = k := by rw [List.getD_eq_getElem?_getD, hki]; rfl
    obtain ⟨n, hn, rfl⟩ : ∃ n, ps[i]? = some n ∧ q = (n : Int) := by
      unfold pI at hqi
      rw [List.getElem?_map] at hqi
      cases z : ps[i]? with
      | none => rw [z] at hqi; cases hqi
      | some n => rw [z] at hqi; exact ⟨n, rfl, (Option.some.inj hqi).symm⟩
    have ep : ps.getD i 0 = n := by rw [List.getD_eq_getElem?_getD, hn]; rfl
    show Run _ _ _ _ [.rw ks, .h ((pI ps).map .int), .d (.str x), .m p, .p k, .d (.int (n : Int)), e6] _
    refine q_asg (e := .p (k.drop n)) (x_is (x_slP (x_vp rfl) (p_some (x_vd rfl)) p_none) (by rw [cutK_from])) ?_
    show Run _ _ _ _ [.rw ks, .h ((pI ps).map .int), .d (.str x), .m p, .p k, .d (.int (n : Int)), .p (k.drop n)] _
    have nxt : phT ks ps x (i + 1) = if x ∈ k.drop n then some (l ++ [n + ix x (k.drop n) + 1]) else none := by
      show (match phT ks ps x i with
        | none => none
        | some l => if x ∈ (ks.getD i []).drop (ps.getD i 0) then some (l ++ [ps.getD i 0 + ix x ((ks.getD i []).drop (ps.getD i 0)) + 1]) else none) = _
      rw [hph, ek, ep]
    refine q_when (t_test (x_op (x_vd rfl) (x_vpt rfl) o_notInT)) (fun hb => ?_) fun hb => ?_
    · have hx : ¬ x ∈ k.drop n := fun z => by rw [decide_eq_true z] at hb; cases hb
      rw [if_neg hx] at nxt
      rw [phT_none nxt ks.length hil] at fin
      exact r_retG x_non (fun z hz => absurd hz (by simp)) fin
    · have hx : x ∈ k.drop n := Classical.byContradiction fun z => by rw [decide_eq_false z] at hb; cases hb
      obtain ⟨h1, h2, h3⟩ := ix_at hx
      rw [if_pos hx] at nxt
      refine r_app (j := 0) (d := .int ((n + ix x (k.drop n) + 1 : Nat) : Int)) (x_vm rfl) (x_is (x_op (x_op (x_vd rfl) (x_tindex (x_vp rfl) (x_vd rfl) h1 h2) o_I0) x_int o_I0) ?_) rfl rfl (by unfold pI; rw [List.length_map, List.length_map]; omega) fun σ H o => ⟨_, _, ⟨_, _, _, _, rfl, nxt, by rw [List.length_append, hll]; rfl, ?_⟩, o⟩
      · congr 1
      · unfold pI
        rw [List.map_append, List.map_append]; rfl
  · rintro δ1 μ1 ⟨e4, e5, e6, l, rfl, hph, hll, rfl⟩
    rw [hph] at fin
    exact r_retG (e := .h ((pI l).map .int)) (x_cbP (a_cons (x_vm rfl) a_nil) (c_tupleLh (.m (j := 0) rfl))) (fun z hz => absurd hz (by simp)) fin
end
end K02
namespace FD
open PySem L2 Evl
open PySem.Spec PyProof.Rows PySem.W
theorem o_notInD {C : Cfg} {M : List Addr} {δ : List Ent} {μ : Mem} {e e' : Ent} {d : PyData} {ds : List PyData} (r1 : Rdd μ e d) (r2 : Rdd μ e' (.list ds)) (s1 : SeqAt.shaped d = true) (s2 : SeqAt.shaped (.list ds) = true) : OpX C (rNotInD C.K) M δ μ μ e e' (.d (.bool (!ds.any fun z => PyData.eqv z d))) := fun σ H x y o h1 h2 Q k =>
  ⟨d, ds, r1.dp o h1, r2.dp o h2, s1, s2, k _ H o (Ex.refl _) (.bl _)⟩
theorem eqv_strsA : ∀ (xs ys : List Str), PyData.eqvAll (xs.map .str) (ys.map .str) = decide (xs = ys)
  | [], [] => by simp [PyData.eqvAll]
  | [], _ :: _ => by simp [PyData.eqvAll]
  | _ :: _, [] => by simp [PyData.eqvAll]
  | x :: xs, y :: ys => by
    have := eqv_strsA xs ys
    simp only [List.map_cons, PyData.eqvAll, eqv_str, this]
    by_cases h : x = y
    · subst h; simp
    · have e : (x == y) = false := beq_eq_false_iff_ne.mpr h
      rw [e]; simp [h]
theorem eqv_rowD (xs ys : List Str) : PyData.eqv (rowD xs) (rowD ys) = decide (xs = ys) := by
  unfold rowD
  rw [PyData.eqv]; exact eqv_strsA xs ys
theorem kle_iff {a b : List Str} : dataLe false keyD a b = true ↔ Kle a b := by
  refine ⟨fun h => ?_, fun h => key_le h⟩
  rcases kle_total a b with q | q
  · exact q
  · have h : (!dataLt (keyD b) (keyD a)) = true := h
    unfold keyD at h
    rw [dataLt_pair (by simp [alike]) (alike_rows b a)] at h
    rcases q with q | ⟨q1, q2⟩
    · exfalso
      have e1 : PyData.eqv (.int (b.length : Int)) (.int (a.length : Int)) = false := by
        rw [eqv_int]; exact beq_eq_false_iff_ne.mpr (by omega)
      rw [e1, dataLt_int] at h
      simp at h; omega
    · have e1 : PyData.eqv (.int (b.length : Int)) (.int (a.length : Int)) = true := by
        rw [eqv_int, q1]; exact beq_self_eq_true _
      rw [e1] at h
      refine .inr ⟨q1.symm, ?_⟩
      unfold leR
      rw [dataLe_eq]
      simp only [cond_false]
      simp only [if_true] at h
      split at h
      · rename_i g
        rw [eqv_rowD] at g
        rw [of_decide_eq_true g] at q2
        rw [of_decide_eq_true g]
        unfold leR at q2
        rw [dataLe_eq] at q2
        exact q2
      · exact h
theorem kle_trans {a b c : List Str} (h : Kle a b) (k : Kle b c) : Kle a c := by
  rcases h with h | ⟨h1, h2⟩ <;> rcases k with k | ⟨k1, k2⟩
  · exact .inl (by omega)
  · exact .inl (by omega)
  · exact .inl (by omega)
  · exact .inr ⟨by omega, leR_tot.trans _ _ _ h2 k2⟩
theorem kle_anti {a b : List Str} (h : Kle a b) (k : Kle b a) : a = b := by
  rcases h with h | ⟨h1, h2⟩ <;> rcases k with k | ⟨k1, k2⟩
  · omega
  · omega
  · omega
  · exact leR_anti h2 k2
theorem kOrd_perm (l : List (List Str)) : (kOrd l).Perm l := List.mergeSort_perm _ _
theorem kOrd_pw (l : List (List Str)) : (kOrd l).Pairwise Kle :=
  (List.pairwise_mergeSort (le := dataLe false keyD) (fun a b c h k => kle_iff.mpr (kle_trans (kle_iff.mp h) (kle_iff.mp k))) (fun a b => by
    rw [Bool.or_eq_true]
    rcases kle_total a b with q | q
    · exact .inl (kle_iff.mpr q)
    · exact .inr (kle_iff.mpr q)) l).imp fun h => kle_iff.mp h
theorem kle_one : ∀ {l m : List (List Str)}, l.Pairwise Kle → m.Pairwise Kle → l.Perm m → l = m
  | [], m, _, _, p => (List.Perm.nil_eq p)
  | x :: l, [], _, _, p => by have := p.length_eq; simp at this
  | x :: l, y :: m, h, k, p => by
    have e : x = y := by
      have h1 : x ∈ y :: m := p.mem_iff.mp List.mem_cons_self
      have h2 : y ∈ x :: l := p.mem_iff.mpr List.mem_cons_self
      rcases List.mem_cons.mp h1 with e | h1
      · exact e
      · rcases List.mem_cons.mp h2 with e | h2
        · exact e.symm
        · exact kle_anti ((List.pairwise_cons.mp h).1 y h2) ((List.pairwise_cons.mp k).1 x h1)
    subst e
    rw [kle_one (List.pairwise_cons.mp h).2 (List.pairwise_cons.mp k).2 ((List.perm_cons x).mp p)]
/-- each one once, the first ones kept -/
def onceL (l : List (List Str)) : List (List Str) := l.foldl (fun f r => if r ∈ f then f else f ++ [r]) []
theorem onceL_succ {l : List (List Str)} {i : Nat} {r : List Str} (h : l[i]? = some r) : onceL (l.take (i + 1)) = if r ∈ onceL (l.take i) then onceL (l.take i) else onceL (l.take i) ++ [r] := by
  unfold onceL
  rw [List.take_add_one, h]
  show List.foldl _ _ (l.take i ++ [r]) = _
  rw [List.foldl_append]; rfl
theorem onceL_inv : ∀ (l f : List (List Str)), f.Nodup → (l.foldl (fun f r => if r ∈ f then f else f ++ [r]) f).Nodup ∧ (∀ x, x ∈ l.foldl (fun f r => if r ∈ f then f else f ++ [r]) f ↔ x ∈ f ∨ x ∈ l) ∧ (l.foldl (fun f r => if r ∈ f then f else f ++ [r]) f).Sublist (f ++ l)
  | [], f, h => ⟨h, fun x => by simp, by simp⟩
  | r :: l, f, h => by
    rw [List.foldl_cons]
    by_cases q : r ∈ f
    · rw [if_pos q]
      obtain ⟨a, b, c⟩ := onceL_inv l f h
      refine ⟨a, fun x => ?_, c.trans ((List.Sublist.refl f).append (List.sublist_cons_self r l))⟩
      rw [b x, List.mem_cons]
      constructor
      · rintro (z | z)
        · exact .inl z
        · exact .inr (.inr z)
      · rintro (z | z | z)
        · exact .inl z
        · exact .inl (z ▸ q)
        · exact .inr z
    · rw [if_neg q]
      obtain ⟨a, b, c⟩ := onceL_inv l (f ++ [r]) (List.nodup_append.mpr ⟨h, by simp, fun x hx y hy => by rw [List.mem_singleton.mp hy]; exact fun z => q (z ▸ hx)⟩)
      refine ⟨a, fun x => ?_, by rw [List.append_assoc] at c; exact c⟩
      rw [b x, List.mem_append, List.mem_singleton, List.mem_cons]
      constructor
      · rintro ((z | z) | z)
        · exact .inl z
        · exact .inr (.inl z)
        · exact .inr (.inr z)
      · rintro (z | z | z)
        · exact .inl (.inl z)
        · exact .inl (.inr z)
        · exact .inr z
theorem onceL_ord (rs : List (List Str)) : onceL (kOrd rs) = ordT rs := by
  obtain ⟨a, b, c⟩ := onceL_inv (kOrd rs) [] List.nodup_nil
  refine kle_one ((kOrd_pw rs).sublist c) (ordT_kle rs) ?_
  refine (List.perm_ext_iff_of_nodup a (ordT_nodup rs)).mpr fun x => ?_
  rw [b x, ordT_mem, (kOrd_perm rs).mem_iff]
  simp
theorem onceL_len (l : List (List Str)) : (onceL l).length ≤ l.length := by
  exact (onceL_inv l [] List.nodup_nil).2.2.length_le
theorem onceL_mem {l : List (List Str)} {x : List Str} (h : x ∈ onceL l) : x ∈ l := by
  have := ((onceL_inv l [] List.nodup_nil).2.1 x).mp h
  simpa using this
end FD

namespace K02
open PySem L2 FD Evl
theorem shp_rows {rows : List (List Str)} (h : ∀ r ∈ rows, Good r) : ∀ d ∈ rows.map rowD, Shp 1 d := fun d hd => by
  obtain ⟨r, hr, rfl⟩ := List.mem_map.mp hd
  exact shp_ts 0 (h r hr)
theorem rows_sh {rows : List (List Str)} (h : ∀ r ∈ rows, Good r) : SeqAt.shaped (.list (rows.map rowD)) = true := (shp_list (n := 1) (shp_rows h)).shaped (by decide)
theorem rowt_sh {rows : List (List Str)} (h : ∀ r ∈ rows, Good r) : SeqAt.shaped (.tuple (rows.map rowD)) = true := (shp_tuple (n := 1) (shp_rows h)).shaped (by decide)
theorem eqvAll_rows : ∀ (xs ys : List (List Str)), PyData.eqvAll (xs.map rowD) (ys.map rowD) = decide (xs = ys)
  | [], [] => by simp [PyData.eqvAll]
  | [], _ :: _ => by simp [PyData.eqvAll]
  | _ :: _, [] => by simp [PyData.eqvAll]
  | x :: xs, y :: ys => by
    have := eqvAll_rows xs ys
    simp only [List.map_cons, PyData.eqvAll, eqv_rowD, this]
    by_cases h : x = y
    · subst h; simp
    · simp [h]
theorem eqv_rowsT (xs ys : List (List Str)) : PyData.eqv (.tuple (xs.map rowD)) (.tuple (ys.map rowD)) = decide (xs = ys) := by
  rw [PyData.eqv]; exact eqvAll_rows xs ys
theorem eqv_rowsL (xs ys : List (List Str)) : PyData.eqv (.list (xs.map rowD)) (.list (ys.map rowD)) = decide (xs = ys) := by
  rw [PyData.eqv]; exact eqvAll_rows xs ys
theorem notIn_rows {l : List (List Str)} {r : List Str} : (!((l.map rowD).any fun z => PyData.eqv z (rowD r))) = !decide (r ∈ l) := by
  congr 1
  rw [List.any_map]
  by_cases h : r ∈ l
  · rw [decide_eq_true h, List.any_eq_true]
    exact ⟨r, h, by simp only [Function.comp]; rw [eqv_rowD]; exact decide_eq_true rfl⟩
  · rw [decide_eq_false h, List.any_eq_false]
    intro g hg
    simp only [Function.comp]
    rw [eqv_rowD]
    simp only [decide_eq_true_eq]
    intro z
    exact h (by rw [← z]; exact hg)
def isRows (d : PyData) (rs : List (List Str)) : Prop := d = .list (rs.map rowD) ∨ d = .tuple (rs.map rowD)
def RioD (ds : List PyData) (d : PyData) : Prop := ∃ (x : PyData) (rs : List (List Str)), ds = [x] ∧ isRows x rs ∧ rs.length < 64 ∧ d = .tuple ((ordT rs).map rowD)
def RgrD (ds : List PyData) (d : PyData) : Prop := ∃ (x : PyData) (rs : List (List Str)), ds = [x] ∧ isRows x rs ∧ rs.length < 64 ∧ (∀ r ∈ rs, Good r ∧ r.length ≤ 1000) ∧ d = .tuple ((greatR rs).map rowD)
def topw (l : List (List Str)) (row : List Str) : Bool := (l.filter fun o => (!decide (o = row)) && decide (row.Sublist o)).isEmpty
theorem topw_upw (l : List (List Str)) (row : List Str) : topw l row = upw l row := by
  unfold topw upw
  rw [Bool.eq_iff_iff, Bool.not_eq_true', List.isEmpty_iff, List.any_eq_false]
  constructor
  · intro h x hx y
    obtain ⟨o, ho, rfl⟩ := List.mem_map.mp hx
    obtain ⟨h1, h2⟩ := List.mem_filter.mp ho
    have y := of_decide_eq_true y
    have h2 := of_decide_eq_true h2
    have : o ∈ l.filter fun o => (!decide (o = row)) && decide (row.Sublist o) := List.mem_filter.mpr ⟨h1, by rw [decide_eq_true y, decide_eq_false (fun z => by rw [z] at h2; omega)]; rfl⟩
    rw [h] at this
    cases this
  · intro h
    refine List.filter_eq_nil_iff.mpr fun o ho q => ?_
    rw [Bool.and_eq_true, Bool.not_eq_true', decide_eq_false_iff_not, decide_eq_true_eq] at q
    obtain ⟨q1, q2⟩ := q
    have hlt : row.length < o.length := by
      rcases Nat.lt_or_ge row.length o.length with z | z
      · exact z
      · exact absurd (q2.eq_of_length_le z).symm q1
    exact h _ (List.mem_map.mpr ⟨o, List.mem_filter.mpr ⟨ho, decide_eq_true hlt⟩, rfl⟩) (decide_eq_true q2)
section
variable {P : Program} {w : World} {K : PySem.W.Frag} {mg : Str → Option Value} {base : Heap}
theorem ok_ioD {f : Addr} {fd : FuncData} (T : Txt mg) (F : Fun K "in_order" "in_order" sIo f fd) : FnOk P w K mg base CX0 1 f fd ["rows"] (spR K 1 RioD) := by
  refine def_R F scIo (by decide) fun cdv A outer s H E hr => ?_
  refine ⟨_, (pss_one (ps_ret (pe_callTy call_tuple_of (by rfl) T.tuple (by decide +kernel) (pa_cons (pe_sortLen hr.units (by rfl) T.sorted (by rfl) T.len (pa_cons (pe_STt rfl hr.units (by rfl) T.sorted (by rfl) T.set (pv 0)) pa_nil)) pa_nil)))), ?_⟩
  rintro M G B ds d _ ⟨x, rs, rfl, hx, hl, rfl⟩ D fin
  show Run _ _ D M [.d x] []
  refine r_retP (x_inord (x_vd rfl) ?_ hl) fin
  rcases hx with rfl | rfl
  · exact .inl (.d _)
  · exact .inr rfl
theorem ok_grD {f : Addr} {fd : FuncData} (T : Txt mg) (F : Fun K "greatest_rows" "greatest_rows" sGr f fd) {f1 f2 f3 : Addr} {fd1 fd2 fd3 : FuncData} (H1 : Has K mg "in_order" sIo ["rows"] f1 fd1) (H2 : Has K mg "within" sWi ["u", "v"] f2 fd2) (H3 : Has K mg "first_fit" sFf ["u", "v"] f3 fd3) :
    FnOk P w K mg base CX0 3 f fd ["rows"] (spR K 1 RgrD) := by
  have G1 : FnOk P w K mg base CX0 1 f1 fd1 ["rows"] (spR K 1 RioD) := ok_ioD T H1.F
  have G2 : FnOk P w K mg base CX0 2 f2 fd2 ["u", "v"] (spR K 2 Rwi) := ok_wi T H2.F H3
  refine def_R F scGr (by decide) fun cdv A outer s H E hr => ?_
  have nd := scGr.nd
  refine ⟨_, (pss_cons (ps_set (i := 1) nd rfl (Or.inl rfl) (pe_call G1 (hr.mono (by decide)) rfl H1.m H1.F.kp H1.b .nil pass0 (pa_cons (pv 0) pa_nil)))
 (pss_cons (ps_set (i := 2) nd rfl (Or.inl rfl) (pe_lst pa_nil))
 (pss_cons (ps_for PassesOwn.never rfl (pi_tup (pv 1)) (pg_name (i := 3) nd rfl (Or.inr rfl)) (pss_cons (ps_setLc (i := 4) (own := [("other", 5)]) (g := (gName 5)) rfl nd rfl rfl (sw_true rfl rfl rfl (by decide +kernel)) (pi_tup (pv 1)) (blkOk_by (N := nGr) (sc := defScope sGr) (by decide +kernel)) (fun _ _ _ _ _ => (pg_name (i := 5) nd rfl (Or.inl rfl))) (fun _ _ _ _ _ => (pts_one (pt_cmpR op_gt (pe_callB (klen (K := K) rfl) (by rfl) T.len PySem.boot_len (pa_cons (pv 5) pa_nil)) (pe_callB (klen (K := K) rfl) (by rfl) T.len PySem.boot_len (pa_cons (pv 3) pa_nil)) (nomark _)))) (fun _ _ _ _ _ => (pv 5)))
 (pss_one (ps_if (pt_not (pt_val (pe_callB (cr_any rfl) (by rfl) T.any (by decide +kernel) (pa_cons (pe_lc (own := [("other", 5)]) (g := (gName 5)) (tt := tYes) rfl nd (pi_list (pv 4)) (blkOk_by (N := nGr) (sc := defScope sGr) (by decide +kernel)) (fun _ _ _ _ _ => (pg_name (i := 5) nd rfl (Or.inl rfl))) (fun _ _ _ _ _ => pts_nil) (fun _ _ _ _ _ => (pe_call G2 hr rfl H2.m H2.F.kp H2.b .nil pass0 (pa_cons (pv 3) (pa_cons (pv 5) pa_nil))))) pa_nil)))) (pss_one (ps_expr (pe_bm PySem.F.plainAttrs_list PySem.F.slot_list_append PySem.F.type_list_append mt_append (pv 2) (pa_cons (pv 3) pa_nil)))) pss_nil))))
 (pss_one (ps_ret (pe_callTy call_tuple_of (by rfl) T.tuple (by decide +kernel) (pa_cons (pv 2) pa_nil))))))), ?_⟩
  rintro M G B ds d _ ⟨x, rs, rfl, hx, hl, hg, rfl⟩ D fin
  show Run _ _ D M [.d x, .u, .u, .u, .u, .u] []
  refine q_asg (x_callR (ds := [x]) (a_cons (x_vd rfl) a_nil) ⟨x, rs, rfl, hx, hl, rfl⟩) ?_
  have hol := ordT_len rs
  have hog : ∀ r ∈ ordT rs, Good r ∧ r.length ≤ 1000 := fun r hr => hg r (ordT_mem.mp hr)
  generalize hL : ordT rs = L at hol hog
  refine q_new (ds := []) a_nil (by simp) fun p hp => ?_
  show Run _ _ D (p :: M) [.d x, .d (.tuple (L.map rowD)), .m p, .u, .u, .u] [(p, .lst [])]
  refine q_for (i_tup (x_vd rfl)) (fun i δ μ => ∃ e3 e4, δ = [.d x, .d (.tuple (L.map rowD)), .m p, e3, e4, .u] ∧ μ = [(p, .lst (((L.take i).filter (upw L)).map rowD))]) ⟨_, _, rfl, rfl⟩ ?_ ?_
  · rintro B' hB i d δ1 μ1 hi ⟨e3, e4, rfl, rfl⟩
    obtain ⟨row, hrow, rfl, _⟩ := rows_get hi
    have hil := (List.getElem?_eq_some_iff.mp hrow).1
    have grow := hog row (List.mem_of_getElem? hrow)
    refine ⟨[3], _, tg_name, ?_⟩
    show Run _ _ _ _ [.d x, .d (.tuple (L.map rowD)), .m p, .d (rowD row), e4, .u] _
    have hlen : (L.map rowD).length = L.length := List.length_map _
    refine q_asg (e := .d (.list ((L.filter fun o => decide (row.length < o.length)).map rowD))) (x_is (x_lc (fun _ => [(p, .lst (((L.take i).filter (upw L)).map rowD))]) (fun j => decide (row.length < (L.getD j []).length)) (fun j => rowD (L.getD j [])) (i_tup (x_vd rfl)) (by rw [hlen]; omega) (fun j d hj G' B'' D' => ?_)) ?_) ?_
    · obtain ⟨o, ho, rfl, eo⟩ := rows_get hj
      refine ⟨[5], [.d x, .d (.tuple (L.map rowD)), .m p, .d (rowD row), e4, .d (rowD o)], _, tg_name, fun k hk => hk, ?_, fun _ => ?_, fun _ => rfl⟩
      · refine t_is (t_test (x_op (x_cbP (a_cons (x_vd rfl) a_nil) c_lenT) (x_cbP (a_cons (x_vd rfl) a_nil) c_lenT) o_B0)) ?_
        rw [eo, List.length_map, List.length_map]
        refine decide_eq_decide.mpr ?_
        constructor <;> intro z <;> omega
      · rw [eo]
        exact x_vd rfl
    · rw [hlen]
      have := lcD_filter L [] (fun o => decide (row.length < o.length)) rowD
      rw [this]
    · show Run _ _ _ _ [.d x, .d (.tuple (L.map rowD)), .m p, .d (rowD row), .d (.list ((L.filter fun o => decide (row.length < o.length)).map rowD)), .u] _
      have hfl : (L.filter fun o => decide (row.length < o.length)).length ≤ 64 := Nat.le_trans (List.length_filter_le _ _) (by omega)
      have hfm : ∀ o ∈ L.filter fun o => decide (row.length < o.length), Good o ∧ o.length ≤ 1000 := fun o ho => hog o (List.mem_filter.mp ho).1
      have hup : upw L row = !((L.filter fun o => decide (row.length < o.length)).map fun o => decide (row.Sublist o)).any id := rfl
      generalize (L.filter fun o => decide (row.length < o.length)) = W at hfl hfm hup
      have nxt : ((L.take (i + 1)).filter (upw L)) = (L.take i).filter (upw L) ++ if upw L row = true then [row] else [] := by
        rw [take_succ' hrow, List.filter_append, List.filter_cons]
        rfl
      refine r_if (b := upw L row) (t_is (t_not (t_B (x_cbP (a_cons (x_is (x_lcP (ts := [5]) (fun j => .bool (decide (row.Sublist (W.getD j [])))) (i_list (x_vd rfl)) (by rw [List.length_map]; omega) (fun j => [.d x, .d (.tuple (L.map rowD)), .m p, .d (rowD row), .d (.list (W.map rowD)), .d (rowD (W.getD j []))]) (fun j d hj => ?_) (fun k hk => hk) fun j d hj G' B'' D' => ?_) ?_) a_nil) (c_any (bs := W.map fun o => decide (row.Sublist o)) (.d _))))) hup.symm) (fun hb => ?_) fun hb => ?_
      · obtain ⟨o, ho, rfl, eo⟩ := rows_get hj
        rw [eo]
        exact tg_name
      · obtain ⟨o, ho, rfl, eo⟩ := rows_get hj
        have go := hfm o (List.mem_of_getElem? ho)
        rw [eo]
        exact x_callR (ds := [ts row, ts o]) (a_cons (x_vd rfl) (a_cons (x_vd rfl) a_nil)) ⟨row, o, rfl, grow.1, go.1, grow.2, go.2, rfl⟩
      · rw [List.length_map, range_map W [] fun o => PyData.bool (decide (row.Sublist o)), List.map_map]
        rfl
      · rw [if_pos hb] at nxt
        refine r_app (j := 0) (d := rowD row) (x_vm rfl) (x_vd rfl) rfl rfl (by rw [List.length_map]; have := List.length_filter_le (upw L) (L.take i); rw [List.length_take] at this; omega) fun σ H o => ⟨_, _, ⟨_, _, rfl, ?_⟩, o⟩
        rw [nxt, List.map_append]; rfl
      · rw [if_neg (by rw [hb]; decide), List.append_nil] at nxt
        exact r_next fun σ H o => ⟨_, _, ⟨_, _, rfl, by rw [nxt]⟩, o⟩
  · rintro δ1 μ1 ⟨e3, e4, rfl, rfl⟩
    rw [List.length_map, List.take_length]
    have eg : greatR rs = L.filter (upw L) := by unfold greatR; rw [hL]
    rw [eg] at fin
    exact r_retP (x_cbP (a_cons (x_vm rfl) a_nil) (c_tupleL (.m (j := 0) rfl))) fin
end
end K02
/-! the plain law of common_behind -/
namespace K02
open PySem L2 FD Evl
abbrev KV := List (List Nat × List (List Str))
def lk (kv : KV) (ps : List Nat) : Option (List (List Str)) := (kv.find? fun p => decide (p.1 = ps)).map (·.2)
def cbStep (rc : List Nat → KV → List (List Str) × KV) (ks : List (List Str)) (ps : List Nat) (st : List (List Str) × KV) (d : Str) : List (List Str) × KV := match phT ks ps d ks.length with
  | none => st
  | some bh => (st.1 ++ (rc bh st.2).1.map (fun r => d :: r), (rc bh st.2).2)
def rest0 (ks : List (List Str)) (ps : List Nat) : List Str := (ks.getD 0 []).drop (ps.getD 0 0)
def cbS : Nat → List (List Str) → List Nat → KV → List (List Str) × KV
  | 0, _, _, kv => ([], kv)
  | f + 1, ks, ps, kv => match lk kv ps with
    | some R => (R, kv)
    | none =>
      let st := (setT (rest0 ks ps)).foldl (cbStep (cbS f ks) ks ps) ([], kv)
      let R := if st.1 = [] then [[]] else greatR st.1
      (R, st.2 ++ [(ps, R)])
/-! ### places -/
theorem phT_some {ks : List (List Str)} {ps : List Nat} {x : Str} : ∀ {n : Nat} {l : List Nat}, phT ks ps x n = some l → l.length = n ∧ ∀ i, i < n → x ∈ (ks.getD i []).drop (ps.getD i 0) ∧ l.getD i 0 = ps.getD i 0 + ix x ((ks.getD i []).drop (ps.getD i 0)) + 1
  | 0, l, h => by
    have : l = [] := by simpa [phT] using h.symm
    rw [this]
    exact ⟨rfl, fun i hi => absurd hi (Nat.not_lt_zero _)⟩
  | n + 1, l, h => by
    unfold phT at h
    cases e : phT ks ps x n with
    | none => rw [e] at h; cases h
    | some l0 =>
      rw [e] at h
      dsimp only at h
      obtain ⟨h1, h2⟩ := phT_some e
      by_cases m : x ∈ (ks.getD n []).drop (ps.getD n 0)
      · rw [if_pos m] at h
        have h := Option.some.inj h
        rw [← h]
        refine ⟨by rw [List.length_append, h1]; rfl, fun i hi => ?_⟩
        by_cases q : i = n
        · subst q
          refine ⟨m, ?_⟩
          rw [List.getD_eq_getElem?_getD, List.getElem?_append_right (by omega), h1, Nat.sub_self]
          rfl
        · obtain ⟨a, b⟩ := h2 i (by omega)
          refine ⟨a, ?_⟩
          rw [← b, List.getD_eq_getElem?_getD, List.getD_eq_getElem?_getD (l := l0), List.getElem?_append_left (by omega)]
      · rw [if_neg m] at h
        cases h
theorem phT_no {ks : List (List Str)} {ps : List Nat} {x : Str} : ∀ {n : Nat}, phT ks ps x n = none → ∃ i, i < n ∧ x ∉ (ks.getD i []).drop (ps.getD i 0)
  | 0, h => by simp [phT] at h
  | n + 1, h => by
    unfold phT at h
    cases e : phT ks ps x n with
    | none =>
      obtain ⟨i, a, b⟩ := phT_no e
      exact ⟨i, by omega, b⟩
    | some l0 =>
      rw [e] at h
      dsimp only at h
      by_cases m : x ∈ (ks.getD n []).drop (ps.getD n 0)
      · rw [if_pos m] at h; cases h
      · exact ⟨n, Nat.lt_succ_self _, m⟩
theorem sub_behind {x : Str} : ∀ {l w : List Str}, (x :: w).Sublist l → w.Sublist (l.drop (ix x l + 1))
  | [], w, h => by cases h
  | a :: l, w, h => by
    unfold ix
    by_cases e : a = x
    · rw [if_pos e]
      show w.Sublist l
      cases h with
      | cons _ q => exact (List.sublist_cons_self x w).trans q
      | cons_cons _ q => exact q
    · rw [if_neg e]
      cases h with
      | cons _ q => exact sub_behind q
      | cons_cons _ q => exact absurd rfl e
theorem sub_ahead {x : Str} : ∀ {l w : List Str}, x ∈ l → w.Sublist (l.drop (ix x l + 1)) → (x :: w).Sublist l
  | [], w, h, _ => by cases h
  | a :: l, w, h, q => by
    unfold ix at q
    by_cases e : a = x
    · rw [if_pos e] at q
      rw [e]
      exact List.Sublist.cons_cons x q
    · rw [if_neg e] at q
      exact (sub_ahead ((List.mem_cons.mp h).elim (fun z => absurd z.symm e) id) q).cons a
theorem ix_inj {x y : Str} {l : List Str} (hx : x ∈ l) (hy : y ∈ l) (e : ix x l = ix y l) : x = y := by
  have h1 := (ix_at hx).1
  have h2 := (ix_at hy).1
  rw [e, h2] at h1
  exact (Option.some.inj h1).symm
/-! ### what a told list of rows is -/
def Com (ks : List (List Str)) (ps : List Nat) (w : List Str) : Prop := ∀ i, i < ks.length → w.Sublist ((ks.getD i []).drop (ps.getD i 0))
def rem (ks : List (List Str)) (ps : List Nat) : Nat := (rest0 ks ps).length
def gB : Nat → Nat
  | 0 => 1
  | n + 1 => 2 ^ n
structure GoodR (ks : List (List Str)) (ps : List Nat) (R : List (List Str)) : Prop where
  com : ∀ r ∈ R, Com ks ps r
  top : ∃ r ∈ R, ∀ w, Com ks ps w → w.length ≤ r.length
  num : R.length ≤ gB (rem ks ps)
  cov : ∀ w, Com ks ps w → ∃ r ∈ R, w.Sublist r
  anti : ∀ r ∈ R, ∀ r' ∈ R, r.Sublist r' → r = r'
  ord : R.Pairwise Kle
  nd : R.Nodup
/-- never more than two greatest ones from here on -/
def Cap2 (ks : List (List Str)) (ps : List Nat) : Prop := ∀ ps' : List Nat, ps'.length = ks.length → (∀ i, i < ks.length → ps.getD i 0 ≤ ps'.getD i 0) → ∀ R, GoodR ks ps' R → R.length ≤ 2
def KOk (ks : List (List Str)) (kv : KV) : Prop := ∀ p ∈ kv, GoodR ks p.1 p.2
theorem com_behind {ks : List (List Str)} {ps bh : List Nat} {d : Str} (h : phT ks ps d ks.length = some bh) {w : List Str} : Com ks ps (d :: w) ↔ Com ks bh w := by
  obtain ⟨h1, h2⟩ := phT_some h
  constructor
  · intro c i hi
    obtain ⟨a, b⟩ := h2 i hi
    have := sub_behind (c i hi)
    rw [List.drop_drop] at this
    rw [b]
    exact this
  · intro c i hi
    obtain ⟨a, b⟩ := h2 i hi
    refine sub_ahead a ?_
    rw [List.drop_drop]
    have := c i hi
    rw [b] at this
    exact this
theorem rem_behind {ks : List (List Str)} {ps bh : List Nat} {d : Str} (h : phT ks ps d ks.length = some bh) (h0 : 0 < ks.length) : rem ks bh = rem ks ps - 1 - ix d (rest0 ks ps) ∧ ix d (rest0 ks ps) < rem ks ps ∧ ps.getD 0 0 < bh.getD 0 0 := by
  obtain ⟨h1, h2⟩ := phT_some h
  obtain ⟨a, b⟩ := h2 0 h0
  refine ⟨?_, (ix_at a).2.2, by omega⟩
  unfold rem rest0
  rw [b, List.length_drop, List.length_drop]
  omega
/-! ### sums -/
theorem sum_sub {g : Nat → Nat} (g1 : ∀ n, 1 ≤ g n) : ∀ (vs l : List Nat), vs.Nodup → (∀ x ∈ vs, x ∈ l) → (vs.map g).sum + (l.length - vs.length) ≤ (l.map g).sum
  | [], l, h, hs => by
    clear h hs
    simp only [List.map_nil, List.sum_nil, List.length_nil, Nat.zero_add, Nat.sub_zero]
    induction l with
    | nil => exact Nat.le_refl _
    | cons x l ih =>
      rw [List.map_cons, List.sum_cons, List.length_cons]
      have := g1 x
      omega
  | x :: vs, l, h, hs => by
    obtain ⟨h1, h2⟩ := List.nodup_cons.mp h
    have hx := hs x List.mem_cons_self
    have ih := sum_sub g1 vs (l.erase x) h2 fun y hy => (List.mem_erase_of_ne (fun (e : y = x) => h1 (by rw [← e]; exact hy))).mpr (hs y (List.mem_cons_of_mem _ hy))
    have p := List.perm_cons_erase hx
    have e1 : (l.map g).sum = g x + ((l.erase x).map g).sum := by
      rw [(p.map g).sum_nat, List.map_cons, List.sum_cons]
    have e2 := List.length_erase_of_mem hx
    have e3 := List.length_pos_of_mem hx
    rw [e1, List.map_cons, List.sum_cons, List.length_cons]
    omega
theorem gB_pos (n : Nat) : 1 ≤ gB n := by
  cases n with
  | zero => exact Nat.le_refl _
  | succ n => exact Nat.one_le_two_pow
theorem gB_sum (n : Nat) : ((List.range (n + 1)).map gB).sum = 2 ^ n := by
  induction n with
  | zero => rfl
  | succ n ih =>
    rw [List.range_succ, List.map_append, List.sum_append, ih]
    simp only [List.map_cons, List.map_nil, List.sum_cons, List.sum_nil, gB]
    rw [Nat.pow_succ]
    omega
theorem two_sum (n : Nat) : ((List.range n).map fun i => 2 ^ i).sum + 1 = 2 ^ n := by
  induction n with
  | zero => rfl
  | succ n ih =>
    rw [List.range_succ, List.map_append, List.sum_append]
    simp only [List.map_cons, List.map_nil, List.sum_cons, List.sum_nil]
    rw [Nat.pow_succ]
    omega
/-- the values of unlike deeds of a row -/
theorem vals_of {r : List Str} {ds : List Str} (hn : ds.Nodup) (hd : ∀ d ∈ ds, d ∈ r) : (ds.map fun d => r.length - 1 - ix d r).Nodup ∧ ∀ x ∈ ds.map fun d => r.length - 1 - ix d r, x ∈ List.range r.length := by
  have inj : ∀ a ∈ ds, ∀ b ∈ ds, r.length - 1 - ix a r = r.length - 1 - ix b r → a = b := fun a ha b hb e => by
    have h1 := (ix_at (hd a ha)).2.2
    have h2 := (ix_at (hd b hb)).2.2
    exact ix_inj (hd a ha) (hd b hb) (by omega)
  refine ⟨List.pairwise_map.mpr (List.Pairwise.imp_of_mem (fun {a b} ha hb ne e => ne (inj a ha b hb e)) hn), ?_⟩
  intro x hx
  obtain ⟨d, hd', e⟩ := List.mem_map.mp hx
  have := (ix_at (hd d hd')).2.2
  rw [← e]
  exact List.mem_range.mpr (by omega)
theorem gsum_le {r : List Str} {ds : List Str} (hn : ds.Nodup) (hd : ∀ d ∈ ds, d ∈ r) : (ds.map fun d => gB (r.length - 1 - ix d r)).sum + (r.length - ds.length) ≤ ((List.range r.length).map gB).sum := by
  obtain ⟨h1, h2⟩ := vals_of hn hd
  have := sum_sub gB_pos _ _ h1 h2
  rw [List.map_map, List.length_map, List.length_range] at this
  exact this
theorem tsum_le {r : List Str} {ds : List Str} (hn : ds.Nodup) (hd : ∀ d ∈ ds, d ∈ r) : (ds.map fun d => 2 ^ (r.length - 1 - ix d r)).sum + 1 ≤ 2 ^ r.length := by
  obtain ⟨h1, h2⟩ := vals_of hn hd
  have := sum_sub (g := fun i => 2 ^ i) (fun n => Nat.one_le_two_pow) _ _ h1 h2
  rw [List.map_map] at this
  have e := two_sum r.length
  have : (ds.map fun d => 2 ^ (r.length - 1 - ix d r)).sum ≤ ((List.range r.length).map fun i => 2 ^ i).sum := by
    refine Nat.le_trans ?_ this
    exact Nat.le_add_right _ _
  omega
/-! ### the loop -/
structure Inv (ks : List (List Str)) (ps : List Nat) (kv : KV) (dn : List Str) (st : List (List Str) × KV) : Prop where
  ok : KOk ks st.2
  keys : ∀ q ∈ st.2, q ∈ kv ∨ ps.getD 0 0 < q.1.getD 0 0
  num : st.1.length ≤ (dn.map fun d => gB (rem ks ps - 1 - ix d (rest0 ks ps))).sum
  com : ∀ r ∈ st.1, Com ks ps r
  all : ∀ d w, d ∈ dn → Com ks ps (d :: w) → ∃ r ∈ st.1, (d :: w).Sublist r
  cap : Cap2 ks ps → st.1.length ≤ 2 * dn.length
  len : st.2.length ≤ kv.length + (dn.map fun d => 2 ^ (rem ks ps - 1 - ix d (rest0 ks ps))).sum
/-- what a call that goes deeper must do -/
def RcOk (rc : List Nat → KV → List (List Str) × KV) (ks : List (List Str)) (n : Nat) : Prop := ∀ (ps : List Nat) (kv : KV), ps.length = ks.length → rem ks ps < n → KOk ks kv →
  GoodR ks ps (rc ps kv).1 ∧ KOk ks (rc ps kv).2 ∧ (∀ q ∈ (rc ps kv).2, q ∈ kv ∨ ps.getD 0 0 ≤ q.1.getD 0 0) ∧ (rc ps kv).2.length ≤ kv.length + 2 ^ rem ks ps
theorem inv_step {rc : List Nat → KV → List (List Str) × KV} {ks : List (List Str)} {ps : List Nat} {kv : KV} {dn : List Str} {st : List (List Str) × KV} {d : Str} (h0 : 0 < ks.length) (hr : RcOk rc ks (rem ks ps)) (I : Inv ks ps kv dn st) : Inv ks ps kv (dn ++ [d]) (cbStep rc ks ps st d) := by
  have es : ∀ f : Str → Nat, ((dn ++ [d]).map f).sum = (dn.map f).sum + f d := fun f => by simp
  unfold cbStep
  cases e : phT ks ps d ks.length with
  | none =>
    dsimp only
    refine ⟨I.ok, I.keys, ?_, I.com, fun c w hc hw => ?_, fun q => by have := I.cap q; rw [List.length_append]; omega, ?_⟩
    · rw [es]; exact Nat.le_add_right_of_le I.num
    · rcases List.mem_append.mp hc with z | z
      · exact I.all c w z hw
      · have z : c = d := List.mem_singleton.mp z
        subst z
        obtain ⟨i, hi, hn⟩ := phT_no e
        exact absurd ((hw i hi).subset List.mem_cons_self) hn
    · rw [es, ← Nat.add_assoc]; exact Nat.le_add_right_of_le I.len
  | some bh =>
    dsimp only
    obtain ⟨r1, r2, r3⟩ := rem_behind e h0
    have hbl := (phT_some e).1
    obtain ⟨g, k, kk, kl⟩ := hr bh st.2 hbl (by omega) I.ok
    refine ⟨k, fun q hq => ?_, ?_, fun r hr' => ?_, fun c w hc hw => ?_, fun q => ?_, ?_⟩
    · rcases kk q hq with z | z
      · exact I.keys q z
      · exact .inr (by omega)
    · rw [es, List.length_append, List.length_map]
      have := I.num
      have := g.num
      rw [r1] at this
      omega
    · rcases List.mem_append.mp hr' with z | z
      · exact I.com r z
      · obtain ⟨r', hr2, rfl⟩ := List.mem_map.mp z
        exact (com_behind e).mpr (g.com r' hr2)
    · rcases List.mem_append.mp hc with z | z
      · obtain ⟨r, h1, h2⟩ := I.all c w z hw
        exact ⟨r, List.mem_append_left _ h1, h2⟩
      · have z : c = d := List.mem_singleton.mp z
        subst z
        obtain ⟨r, h1, h2⟩ := g.cov w ((com_behind e).mp hw)
        exact ⟨c :: r, List.mem_append_right _ (List.mem_map.mpr ⟨r, h1, rfl⟩), h2.cons_cons c⟩
    · have h1 := I.cap q
      have h2 := q bh hbl (fun i hi => by have := ((phT_some e).2 i hi).2; omega) _ g
      rw [List.length_append, List.length_map, List.length_append]
      show _ + _ ≤ 2 * (dn.length + 1)
      omega
    · rw [es]
      show (rc bh st.2).2.length ≤ _
      have := I.len
      rw [r1] at kl
      omega
theorem inv_fold {rc : List Nat → KV → List (List Str) × KV} {ks : List (List Str)} {ps : List Nat} {kv : KV} (h0 : 0 < ks.length) (hr : RcOk rc ks (rem ks ps)) : ∀ (ds dn : List Str) (st : List (List Str) × KV), Inv ks ps kv dn st → Inv ks ps kv (dn ++ ds) (ds.foldl (cbStep rc ks ps) st)
  | [], dn, st, I => by rw [List.append_nil]; exact I
  | d :: ds, dn, st, I => by
    have := inv_fold h0 hr ds (dn ++ [d]) _ (inv_step h0 hr I (d := d))
    rw [List.append_assoc] at this
    exact this
theorem inv_zero {ks : List (List Str)} {ps : List Nat} {kv : KV} (h : KOk ks kv) : Inv ks ps kv [] ([], kv) := ⟨h, fun q hq => .inl hq, Nat.zero_le _, fun r hr => absurd hr (by simp), fun d w hd => absurd hd (by simp), fun _ => Nat.zero_le _, Nat.le_refl _⟩
/-- a longest one is kept -/
theorem great_top {l : List (List Str)} {r : List Str} (hr : r ∈ l) (h : ∀ x ∈ l, x.length ≤ r.length) : r ∈ greatR l := by
  unfold greatR
  refine List.mem_filter.mpr ⟨ordT_mem.mpr hr, ?_⟩
  unfold upw
  have e : ((ordT l).filter fun o => decide (r.length < o.length)) = [] := by
    rw [List.filter_eq_nil_iff]
    intro x hx z
    have := h x (ordT_mem.mp hx)
    have := of_decide_eq_true z
    omega
  rw [e]
  rfl
theorem great_sub {l : List (List Str)} {r : List Str} (h : r ∈ greatR l) : r ∈ l := ordT_mem.mp (List.mem_filter.mp h).1
theorem great_len (l : List (List Str)) : (greatR l).length ≤ l.length := Nat.le_trans (List.length_filter_le _ _) (ordT_len l)
theorem longest : ∀ {l : List (List Str)}, l ≠ [] → ∃ r ∈ l, ∀ x ∈ l, x.length ≤ r.length
  | [], h => absurd rfl h
  | a :: l, _ => by
    by_cases e : l = []
    · subst e
      exact ⟨a, List.mem_cons_self, fun x hx => by rw [List.mem_singleton.mp hx]; exact Nat.le_refl _⟩
    · obtain ⟨r, h1, h2⟩ := longest e
      by_cases q : a.length ≤ r.length
      · exact ⟨r, List.mem_cons_of_mem _ h1, fun x hx => (List.mem_cons.mp hx).elim (fun z => by rw [z]; exact q) (h2 x)⟩
      · exact ⟨a, List.mem_cons_self, fun x hx => (List.mem_cons.mp hx).elim (fun z => by rw [z]; exact Nat.le_refl _) fun z => by have := h2 x z; omega⟩
theorem lk_none {kv : KV} {ps : List Nat} (h : ∀ q ∈ kv, q.1 ≠ ps) : lk kv ps = none := by
  unfold lk
  have : kv.find? (fun p => decide (p.1 = ps)) = none := List.find?_eq_none.mpr fun q hq z => h q hq (of_decide_eq_true z)
  rw [this]
  rfl
theorem lk_no {kv : KV} {ps : List Nat} (h : lk kv ps = none) : ∀ q ∈ kv, q.1 ≠ ps := by
  intro q hq e
  unfold lk at h
  cases z : kv.find? (fun p => decide (p.1 = ps)) with
  | none => exact List.find?_eq_none.mp z q hq (decide_eq_true e)
  | some u => rw [z] at h; cases h
theorem lk_some {kv : KV} {ps : List Nat} {R : List (List Str)} (h : lk kv ps = some R) : (ps, R) ∈ kv := by
  unfold lk at h
  cases z : kv.find? (fun p => decide (p.1 = ps)) with
  | none => rw [z] at h; cases h
  | some u =>
    rw [z] at h
    have h1 := List.mem_of_find?_eq_some z
    have h2 : u.1 = ps := of_decide_eq_true (List.find?_some (p := fun p : List Nat × List (List Str) => decide (p.1 = ps)) z)
    have h3 : u.2 = R := Option.some.inj h
    rw [← h2, ← h3]
    exact h1
/-- the rows told at the loop's end -/
def endR (found : List (List Str)) : List (List Str) := if found = [] then [[]] else greatR found
theorem great_cov {l : List (List Str)} : ∀ (n : Nat) {L : Nat} {x : List Str}, (∀ y ∈ l, y.length ≤ L) → L - x.length ≤ n → x ∈ l → ∃ r ∈ greatR l, x.Sublist r
  | n, L, x, hL, hn, hx => by
    cases e : upw (ordT l) x with
    | true => exact ⟨x, List.mem_filter.mpr ⟨ordT_mem.mpr hx, e⟩, List.Sublist.refl x⟩
    | false =>
      unfold upw at e
      rw [Bool.not_eq_false', List.any_eq_true] at e
      obtain ⟨b, hb, q⟩ := e
      obtain ⟨o, ho, rfl⟩ := List.mem_map.mp hb
      obtain ⟨h1, h2⟩ := List.mem_filter.mp ho
      have h2 := of_decide_eq_true h2
      have q : x.Sublist o := of_decide_eq_true q
      have ho := ordT_mem.mp h1
      have := hL o ho
      cases n with
      | zero => omega
      | succ n =>
        obtain ⟨r, hr, hs⟩ := great_cov n (x := o) hL (by omega) ho
        exact ⟨r, hr, q.trans hs⟩
theorem great_anti {l : List (List Str)} {r r' : List Str} (h : r ∈ greatR l) (h' : r' ∈ greatR l) (s : r.Sublist r') : r = r' := by
  rcases Nat.lt_or_ge r.length r'.length with z | z
  · exfalso
    have h1 := (List.mem_filter.mp h).2
    have h2 := (List.mem_filter.mp h').1
    unfold upw at h1
    rw [Bool.not_eq_true', List.any_eq_false] at h1
    exact h1 _ (List.mem_map.mpr ⟨r', List.mem_filter.mpr ⟨h2, decide_eq_true z⟩, rfl⟩) (decide_eq_true s)
  · exact s.eq_of_length_le z
theorem max_len : ∀ l : List (List Str), ∃ L, ∀ y ∈ l, y.length ≤ L
  | [] => ⟨0, fun y hy => nomatch hy⟩
  | a :: l => by
    obtain ⟨L, h⟩ := max_len l
    refine ⟨max a.length L, fun y hy => ?_⟩
    rcases List.mem_cons.mp hy with z | z
    · rw [z]; omega
    · have := h y z; omega
theorem end_ok {ks : List (List Str)} {ps : List Nat} {kv : KV} {st : List (List Str) × KV} (h0 : 0 < ks.length) (I : Inv ks ps kv (setT (rest0 ks ps)) st) : GoodR ks ps (endR st.1) := by
  have com2 : ∀ w, Com ks ps w → w = [] ∨ ∃ r ∈ st.1, w.Sublist r := fun w hw => by
    cases w with
    | nil => exact .inl rfl
    | cons d w => exact .inr (I.all d w (setT_mem.mpr ((hw 0 h0).subset List.mem_cons_self)) hw)
  have com1 : ∀ w, Com ks ps w → w = [] ∨ ∃ r ∈ st.1, w.length ≤ r.length := fun w hw => by
    cases w with
    | nil => exact .inl rfl
    | cons d w =>
      obtain ⟨r, h1, h2⟩ := I.all d w (setT_mem.mpr ((hw 0 h0).subset List.mem_cons_self)) hw
      exact .inr ⟨r, h1, h2.length_le⟩
  have hs : (setT (rest0 ks ps)).Nodup := setT_nodup _
  have hsum := gsum_le hs fun d hd => setT_mem.mp hd
  unfold endR
  by_cases e : st.1 = []
  · rw [if_pos e]
    refine ⟨fun r hr i hi => by rw [List.mem_singleton.mp hr]; exact List.nil_sublist _, ⟨[], List.mem_singleton.mpr rfl, fun w hw => ?_⟩, gB_pos _, fun w hw => ?_, fun r hr r' hr' _ => by rw [List.mem_singleton.mp hr, List.mem_singleton.mp hr'], List.pairwise_singleton _ _, by simp⟩
    · rcases com1 w hw with z | ⟨r, hr, _⟩
      · rw [z]; exact Nat.le_refl _
      · rw [e] at hr; cases hr
    · rcases com2 w hw with z | ⟨r, hr, _⟩
      · exact ⟨[], List.mem_singleton.mpr rfl, by rw [z]; exact List.Sublist.refl _⟩
      · rw [e] at hr; cases hr
  · rw [if_neg e]
    obtain ⟨L, hL⟩ := max_len st.1
    refine ⟨fun r hr => I.com r (great_sub hr), ?_, ?_, fun w hw => ?_, fun r hr r' hr' s => great_anti hr hr' s, (ordT_kle st.1).sublist List.filter_sublist, (ordT_nodup st.1).sublist List.filter_sublist⟩
    · obtain ⟨r, h1, h2⟩ := longest e
      refine ⟨r, great_top h1 h2, fun w hw => ?_⟩
      rcases com1 w hw with z | ⟨r', hr, hl⟩
      · rw [z]; exact Nat.zero_le _
      · exact Nat.le_trans hl (h2 r' hr)
    · have h1 := great_len st.1
      have h2 := I.num
      have h3 : 0 < rem ks ps := by
        refine Nat.pos_of_ne_zero fun z => ?_
        have e0 : rest0 ks ps = [] := List.eq_nil_of_length_eq_zero z
        have e1 : setT (rest0 ks ps) = [] := by
          rw [e0]
          exact List.eq_nil_of_length_eq_zero (Nat.le_zero.mp (setT_len []))
        rw [e1] at h2
        exact e (List.eq_nil_of_length_eq_zero (Nat.le_zero.mp h2))
      obtain ⟨n, hn⟩ : ∃ n, rem ks ps = n + 1 := ⟨rem ks ps - 1, by omega⟩
      have h4 := gB_sum n
      have h5 : gB (rem ks ps) = 2 ^ n := by rw [hn]; rfl
      have h6 : (rest0 ks ps).length = n + 1 := hn
      rw [h6] at hsum
      rw [h5]
      rw [hn] at h2
      omega
    · obtain ⟨x, hx, hs⟩ : ∃ x ∈ st.1, w.Sublist x := by
        rcases com2 w hw with z | z
        · obtain ⟨x, hx⟩ := List.exists_mem_of_ne_nil _ e
          exact ⟨x, hx, by rw [z]; exact List.nil_sublist _⟩
        · exact z
      obtain ⟨r, h1, h2⟩ := great_cov (L - x.length) hL (Nat.le_refl _) hx
      exact ⟨r, h1, hs.trans h2⟩
theorem cb_ok (ks : List (List Str)) (h0 : 0 < ks.length) : ∀ f, RcOk (cbS f ks) ks f
  | 0, ps, kv, _, h, _ => absurd h (Nat.not_lt_zero _)
  | f + 1, ps, kv, hl, hr, hk => by
    unfold cbS
    cases e : lk kv ps with
    | some R => exact ⟨hk _ (lk_some e), hk, fun q hq => .inl hq, Nat.le_add_right _ _⟩
    | none =>
      dsimp only
      have hf : RcOk (cbS f ks) ks (rem ks ps) := fun ps' kv' a b c => cb_ok ks h0 f ps' kv' a (by omega) c
      have I := inv_fold h0 hf (setT (rest0 ks ps)) [] _ (inv_zero hk (ps := ps))
      rw [List.nil_append] at I
      have g := end_ok h0 I
      generalize (setT (rest0 ks ps)).foldl (cbStep (cbS f ks) ks ps) ([], kv) = st at I g
      refine ⟨g, fun q hq => ?_, fun q hq => ?_, ?_⟩
      · rcases List.mem_append.mp hq with z | z
        · exact I.ok q z
        · rw [List.mem_singleton.mp z]; exact g
      · rcases List.mem_append.mp hq with z | z
        · exact (I.keys q z).elim .inl fun y => .inr (Nat.le_of_lt y)
        · rw [List.mem_singleton.mp z]; exact .inr (Nat.le_refl _)
      · rw [List.length_append, List.length_singleton]
        have h1 := I.len
        have h2 := tsum_le (setT_nodup (rest0 ks ps)) fun d hd => setT_mem.mp hd
        have h3 : (rest0 ks ps).length = rem ks ps := rfl
        rw [h3] at h2
        omega
/-- few enough to be put in a set -/
theorem inv_few {ks : List (List Str)} {ps : List Nat} {kv : KV} {st : List (List Str) × KV} {dn : List Str} (I : Inv ks ps kv dn st) (hn : dn.Nodup) (hd : ∀ d ∈ dn, d ∈ rest0 ks ps) (h : rem ks ps ≤ 6 ∨ (rem ks ps ≤ 13 ∧ Cap2 ks ps)) : st.1.length < 64 := by
  rcases h with h6 | ⟨h13, hc⟩
  · have h1 := I.num
    have h2 := gsum_le hn hd
    have h3 : (rest0 ks ps).length = rem ks ps := rfl
    rw [h3] at h2
    generalize (dn.map fun d => gB (rem ks ps - 1 - ix d (rest0 ks ps))).sum = S at h1 h2
    generalize rem ks ps = n at h2 h6
    rcases n with _ | n
    · have h5 : ((List.range 0).map gB).sum = 0 := rfl
      rw [h5] at h2
      omega
    · rw [gB_sum n] at h2
      have h8 : 2 ^ n ≤ 2 ^ 5 := Nat.pow_le_pow_right (by decide) (by omega)
      have h9 : (2 : Nat) ^ 5 = 32 := rfl
      omega
  · have h1 := I.cap hc
    have h2 := (vals_of hn hd).1
    have h3 : dn.length ≤ rem ks ps := by
      have := K02.nodup_le (l := dn) (k := rest0 ks ps) hn hd
      exact this
    omega
/-- the rows told are determined by what is common -/
theorem good_one {ks ks' : List (List Str)} {ps ps' : List Nat} {R R' : List (List Str)} (G : GoodR ks ps R) (G' : GoodR ks' ps' R') (h : ∀ w, Com ks ps w ↔ Com ks' ps' w) : R = R' := by
  have key : ∀ {ks ks' : List (List Str)} {ps ps' : List Nat} {R R' : List (List Str)}, GoodR ks ps R → GoodR ks' ps' R' → (∀ w, Com ks ps w ↔ Com ks' ps' w) → ∀ r ∈ R, r ∈ R' := fun G G' h r hr => by
    obtain ⟨r2, h2, s2⟩ := G'.cov r ((h r).mp (G.com r hr))
    obtain ⟨r1, h1, s1⟩ := G.cov r2 ((h r2).mpr (G'.com r2 h2))
    have e := G.anti r hr r1 h1 (s2.trans s1)
    subst e
    have := s2.eq_of_length_le s1.length_le
    rw [this]; exact h2
  refine FD.kle_one G.ord G'.ord ((List.perm_ext_iff_of_nodup G.nd G'.nd).mpr fun r => ⟨key G G' h r, key G' G (fun w => (h w).symm) r⟩)
end K02
namespace FD
open PySem L2 Evl
section
variable {C : Cfg} {M : List Addr} {δ : List Ent} {μ μ' μ1 : Mem} {te ta tb : TE} {d : PyData} {i : Nat} {ks : List (List Str)}
theorem x_lcPl {wi : TI} {g : TG} {vs : List Nat} {xs : List PyData} (f : Nat → PyData) (hi : EvI C wi M δ μ μ' xs) (hz : xs.length ≤ 100000) {ts : List Nat} (dl : Nat → List Ent)
    (htg : ∀ (i : Nat) (d : PyData), xs[i]? = some d → TgX C.K g ts d (wipeE δ vs) (dl i)) (hts : ∀ k ∈ ts, k ∈ vs)
    (he : ∀ (i : Nat) (d : PyData), xs[i]? = some d → ∀ (G B : Hp) (D : Addr), EvX { C with G := G, B := B } te (D :: M) (dl i) μ' μ' (.d (f i))) :
    EvX C (tLc wi g tYes te vs) M δ μ μ' (.l ((List.range xs.length).map f)) := by
  rw [← lcD_all]
  exact x_lcNl (fun _ => μ') (fun _ => true) f hi.toN (fun _ _ _ _ _ _ _ => trivial) hz fun i d hd G B D => ⟨ts, dl i, μ', htg i d hd, hts, t_yes, fun _ => he i d hd G B D, fun z => nomatch z⟩
theorem x_vrwt (h : δ[i]? = some (.rw ks)) : EvX C (tVar i) M δ μ μ (.d (.tuple (ks.map rowD))) := x_wrw (x_vrw h)
end
theorem cutD_from (k : List Str) (p : Nat) : cutD (k.map .str) (some (p : Int)) none = (k.drop p).map .str := by
  unfold cutD
  have e1 : HT.sIx (k.map PyData.str).length 0 (some (p : Int)) = min p (k.map PyData.str).length := HT.sIx_nat _ _ _
  have e2 : HT.sIx (k.map PyData.str).length (k.map PyData.str).length none = (k.map PyData.str).length := rfl
  rw [e1, e2, List.length_map]
  by_cases h : p ≤ k.length
  · rw [Nat.min_eq_left h, List.take_of_length_le (by rw [List.length_drop, List.length_map]; exact Nat.le_refl _), List.map_drop]
  · rw [Nat.min_eq_right (by omega), List.drop_eq_nil_of_le (as := k) (by omega)]
    simp
section
variable {C : Cfg} {M : List Addr} {δ : List Ent} {μ μ1 μ2 μ3 : Mem} {te ta tb : TE} {d : PyData} {a : Addr} {j : Nat} {k : List Int} {l : Tct} {D : Ends}
theorem r_dputTw (h : EvX C te M δ μ μ1 (.d d)) (hx : EvX C ta M δ μ1 μ2 (.m a)) (hi : EvX C tb M δ μ2 μ3 (.h (k.map .int))) (hj : μ3[j]? = some (a, .dT (kt l))) (hk : valT l k = none) (hl : l.length < 100000) (kk : Nx C D M δ (μ3.set j (a, .dT (kt (l ++ [(k, d)]))))) :
    Run C (tAsg te (gSub ta tb rSetD)) D M δ μ := fun σ H o => h σ H o _ fun v H1 o1 x1 r1 => hx σ H1 o1 _ fun w H2 o2 x2 r2 => hi σ H2 o2 _ fun z H3 o3 x3 r3 => by
  have e1 : w = .ref a := r2
  obtain ⟨b, e2, e3⟩ := key_at r3
  obtain ⟨_, _, ws, q3, q4⟩ := o3.mem _ (List.mem_of_getElem? hj)
  show ∃ a' H', w = .ref a' ∧ DPut H3 a' z v H' ∧ D.nx σ H'
  refine ⟨a, upd H3 a (.dT (putK ws (k.map Sum.inl) v)), e1, ?_, ?_⟩
  · rw [e2]
    exact .t q3 (hide_some e3).2 (sz_lt (by rw [tc_len q4]; omega))
  · exact kk _ _ (o3.write hj ⟨_, upd_same, tc_snoc q4 hk (EntOk.mono (e := .d d) (x2.trans x3) r1)⟩)
end
end FD
namespace K02
open PySem L2 FD Evl
def kvT (kv : KV) : Tct := kv.map fun p => (pI p.1, .tuple (p.2.map rowD))
theorem pI_inj : ∀ {p q : List Nat}, pI p = pI q → p = q
  | [], [], _ => rfl
  | [], _ :: _, h => by simp [pI] at h
  | _ :: _, [], h => by simp [pI] at h
  | a :: p, b :: q, h => by
    have h1 : (a : Int) = (b : Int) ∧ pI p = pI q := by
      unfold pI at h
      rw [List.map_cons, List.map_cons] at h
      injection h with h1 h2
      exact ⟨h1, h2⟩
    rw [pI_inj h1.2, Int.ofNat.inj h1.1]
theorem val_lk : ∀ (kv : KV) (ps : List Nat), valT (kvT kv) (pI ps) = (lk kv ps).map fun R => .tuple (R.map rowD)
  | [], ps => rfl
  | p :: kv, ps => by
    have ih := val_lk kv ps
    unfold valT lk at ih ⊢
    show ((_ :: kvT kv).find? _).map _ = _
    rw [List.find?_cons, List.find?_cons]
    by_cases h : p.1 = ps
    · rw [decide_eq_true (show pI p.1 = pI ps by rw [h]), decide_eq_true h]
      rfl
    · rw [decide_eq_false (show ¬ pI p.1 = pI ps from fun z => h (pI_inj z)), decide_eq_false h]
      exact ih
theorem kvT_snoc (kv : KV) (ps : List Nat) (R : List (List Str)) : kvT (kv ++ [(ps, R)]) = kvT kv ++ [(pI ps, .tuple (R.map rowD))] := by
  unfold kvT
  rw [List.map_append]; rfl
structure Cnd (ks : List (List Str)) (ps : List Nat) (kv : KV) : Prop where
  h0 : 0 < ks.length
  h2 : ks.length ≤ 100
  good : ∀ k ∈ ks, Good k ∧ k.length ≤ 100
  few : rem ks ps ≤ 6 ∨ (rem ks ps ≤ 12 ∧ Cap2 ks ps)
  pl : ps.length = ks.length
  ok : KOk ks kv
  len : kv.length + 2 ^ rem ks ps ≤ 5000
theorem cap_mono {ks : List (List Str)} {ps bh : List Nat} {d : Str} (h : Cap2 ks ps) (e : phT ks ps d ks.length = some bh) : Cap2 ks bh := fun ps' hl hi R g => h ps' hl (fun i q => by
  have := ((phT_some e).2 i q).2
  have := hi i q
  omega) R g
def Rcb (n : Nat) (es : List Ent) (μ : Mem) (d : PyData) (μ' : Mem) : Prop := ∃ (a : Addr) (ks : List (List Str)) (ps : List Nat) (kv : KV), es = [.rw ks, .h ((pI ps).map .int), .m a] ∧ μ = [(a, .dT (kt (kvT kv)))] ∧ Cnd ks ps kv ∧ rem ks ps < n ∧
  d = .tuple ((cbS n ks ps kv).1.map rowD) ∧ μ' = [(a, .dT (kt (kvT (cbS n ks ps kv).2)))]
theorem getD_at {ks : List (List Str)} (h0 : 0 < ks.length) : ks[0]? = some (ks.getD 0 []) := by
  rw [List.getD_eq_getElem?_getD, List.getElem?_eq_getElem h0]; rfl
theorem good_sub {r k : List Str} (h : r.Sublist k) (g : Good k ∧ k.length ≤ 100) : Good r ∧ r.length ≤ 100 := ⟨fun x hx => g.1 x (h.subset hx), Nat.le_trans h.length_le g.2⟩
theorem com_good {ks : List (List Str)} {ps : List Nat} {r : List Str} (h0 : 0 < ks.length) (g : ∀ k ∈ ks, Good k ∧ k.length ≤ 100) (c : Com ks ps r) : Good r ∧ r.length ≤ 100 := by
  have h := c 0 h0
  exact good_sub (h.trans (List.drop_sublist _ _)) (g _ (List.mem_of_getElem? (getD_at h0)))
section
variable {P : Program} {w : World} {K : PySem.W.Frag} {mg : Str → Option Value} {base : Heap}
abbrev nCb : List Str := ["rows", "places", "known", "found", "deed", "behind", "row"]
theorem scCb : FnScope nCb ["rows", "places", "known"] (defScope sCb) := ⟨rfl, rfl, rfl, by decide +kernel, rfl, by decide +kernel, by decide +kernel⟩
theorem ok_cb {f : Addr} {fd : FuncData} (T : Txt mg) (Hc : Has K mg "common_behind" sCb ["rows", "places", "known"] f fd) {f1 f2 f3 f4 f5 : Addr} {fd1 fd2 fd3 fd4 fd5 : FuncData} (H1 : Has K mg "places_behind" sPb ["rows", "places", "deed"] f1 fd1) (H2 : Has K mg "greatest_rows" sGr ["rows"] f2 fd2)
    (H3 : Has K mg "in_order" sIo ["rows"] f3 fd3) (H4 : Has K mg "within" sWi ["u", "v"] f4 fd4) (H5 : Has K mg "first_fit" sFf ["u", "v"] f5 fd5) :
    ∀ n, FnOk P w K mg base CX0 (n + 3) f fd ["rows", "places", "known"] (spE K 3 (Rcb n))
  | 0 => ⟨fun vs H Q E hs => hs.1, fun A outer s H args us vs Q E _ _ _ _ hs => by
    obtain ⟨_, M, es, μ, d, μ', _, _, _, _, _, hR, _⟩ := hs
    obtain ⟨a, ks, ps, kv, _, _, _, hlt, _⟩ := hR
    exact absurd hlt (Nat.not_lt_zero _)⟩
  | n + 1 => by
    have G0 := ok_cb T Hc H1 H2 H3 H4 H5 n
    have G1 : FnOk P w K mg base CX0 1 f1 fd1 ["rows", "places", "deed"] (spG K 3 Rpb) := ok_pb T H1.F
    have G2 : FnOk P w K mg base CX0 3 f2 fd2 ["rows"] (spE K 1 Rgr) := ok_gr T H2.F H3 H4 H5
    refine def_E Hc.F scCb (by decide) rfl fun cdv A outer s H E hr => ?_
    have nd := scCb.nd
    have hu1 := hu_of hr
    refine ⟨_, (pss_cons (ps_if (pt_cmp (pc_dnotin hu1 (pv 1) (pv 2)) (by with_unfolding_all rfl)) (pss_cons (ps_set (i := 3) nd rfl (Or.inl rfl) (pe_lst pa_nil))
 (pss_cons (ps_for PassesOwn.never rfl (pi_list (pe_sset rfl (by rfl) T.sorted (by rfl) T.set (pe_slice sl_tupA (pe_ix ix_tup (pv 0) pe_int (fun _ _ => rfl)) (po_some (pe_ix ix_tup (pv 1) pe_int (fun _ _ => rfl))) po_none))) (pg_name (i := 4) nd rfl (Or.inr rfl)) (pss_cons (ps_set (i := 5) nd rfl (Or.inl rfl) (pe_call G1 (hr.mono (by omega)) rfl H1.m H1.F.kp H1.b .nil pass0 (pa_cons (pv 0) (pa_cons (pv 1) (pa_cons (pv 4) pa_nil)))))
 (pss_one (ps_if (pt_cmpR op_notN (pv 5) pe_non (nomark _)) (pss_one (ps_expr (pe_bm PySem.F.plainAttrs_list PySem.F.slot_list_extend PySem.F.type_list_extend mt_extend (pv 3) (pa_cons (pe_lc (own := [("row", 6)]) (g := (gName 6)) (tt := tYes) rfl nd (pi_tup (pe_call G0 hr rfl Hc.m Hc.F.kp Hc.b .nil pass0 (pa_cons (pv 0) (pa_cons (pv 5) (pa_cons (pv 2) pa_nil))))) (blkOk_by (N := nCb) (sc := defScope sCb) (by decide +kernel)) (fun _ _ _ _ _ => (pg_name (i := 6) nd rfl (Or.inl rfl))) (fun _ _ _ _ _ => pts_nil) (fun _ _ _ _ _ => (pe_op (kop_catA (K := K) rfl) (pe_tup (pa_cons (pv 4) pa_nil)) (pv 6)))) pa_nil)))) pss_nil))))
 (pss_one (ps_asg (pe_ifExp (pt_cmpR (op_neD hr.units) (pv 3) (pe_lst pa_nil) (nomark _)) (pe_call G2 (hr.mono (by omega)) rfl H2.m H2.F.kp H2.b .nil pass0 (pa_cons (pv 3) pa_nil)) (pe_tup (pa_cons (pe_tup pa_nil) pa_nil))) (pg_sub (pv 2) (pv 1) (set_dict hu1)))))) pss_nil)
 (pss_one (ps_ret (pe_dget hu1 (pv 2) (pv 1) (fun _ _ => rfl))))), ?_⟩
    rintro M G B es μ d μ' ⟨a, ks, ps, kv, rfl, rfl, c, hlt, rfl, rfl⟩ D fin
    show Run _ _ D M [.rw ks, .h ((pI ps).map .int), .m a, .u, .u, .u, .u] [(a, .dT (kt (kvT kv)))]
    refine q_when (t_B (x_notinT (x_vh rfl) (x_vm rfl) (List.mem_singleton.mpr rfl))) (fun hb => ?_) fun hb => ?_
    · have hv : valT (kvT kv) (pI ps) = none := by
        cases z : valT (kvT kv) (pI ps) with
        | none => rfl
        | some y => rw [z] at hb; cases hb
      have hlk : lk kv ps = none := by
        rw [val_lk] at hv
        cases z : lk kv ps with
        | none => rfl
        | some y => rw [z] at hv; cases hv
      have ecb : cbS (n + 1) ks ps kv = (endR ((setT (rest0 ks ps)).foldl (cbStep (cbS n ks) ks ps) ([], kv)).1, ((setT (rest0 ks ps)).foldl (cbStep (cbS n ks) ks ps) ([], kv)).2 ++ [(ps, endR ((setT (rest0 ks ps)).foldl (cbStep (cbS n ks) ks ps) ([], kv)).1)]) := by
        conv => lhs; unfold cbS
        rw [hlk]
        rfl
      rw [ecb] at fin
      have hrc : RcOk (cbS n ks) ks (rem ks ps) := fun ps' kv' x y z => cb_ok ks c.h0 n ps' kv' x (by omega) z
      have k0 := getD_at c.h0
      have p0 : ((pI ps).map PyData.int)[0]? = some (.int ((ps.getD 0 0 : Nat) : Int)) := by
        unfold pI
        have : 0 < ps.length := by rw [c.pl]; exact c.h0
        rw [List.map_map, List.getElem?_map, List.getD_eq_getElem?_getD, List.getElem?_eq_getElem this]
        rfl
      have hr12 : rem ks ps ≤ 12 := by
        rcases c.few with h | h
        · omega
        · exact h.1
      have hfw : rem ks ps ≤ 6 ∨ (rem ks ps ≤ 13 ∧ Cap2 ks ps) := c.few.imp id fun h => ⟨by omega, h.2⟩
      have hnd := setT_nodup (rest0 ks ps)
      have hmem : ∀ x ∈ setT (rest0 ks ps), x ∈ rest0 ks ps := fun x hx => setT_mem.mp hx
      have inv : ∀ i, Inv ks ps kv ((setT (rest0 ks ps)).take i) (((setT (rest0 ks ps)).take i).foldl (cbStep (cbS n ks) ks ps) ([], kv)) := fun i => by
        have := inv_fold c.h0 hrc ((setT (rest0 ks ps)).take i) [] _ (inv_zero c.ok (ps := ps))
        rw [List.nil_append] at this
        exact this
      refine q_new (ds := []) a_nil (by simp) fun p hp => ?_
      show Run _ _ _ (p :: M) [.rw ks, .h ((pI ps).map .int), .m a, .m p, .u, .u, .u] [(p, .lst []), (a, .dT (kt (kvT kv)))]
      refine q_for (xs := (setT (rest0 ks ps)).map .str) (i_list (x_sset (zs := rest0 ks ps) (x_is (x_slT (x_op (x_vrwt rfl) x_int (o_ixT (i := ((0 : Nat) : Int)) (atI_nat (by rw [List.getElem?_map, k0]; rfl)))) (p_some (x_op (x_vht rfl) x_int (o_ixT (i := ((0 : Nat) : Int)) (atI_nat p0)))) p_none) (by rw [cutD_from]; rfl)) (by have : (rest0 ks ps).length = rem ks ps := rfl; omega)))
        (fun i δ μ => ∃ e4 e5, δ = [.rw ks, .h ((pI ps).map .int), .m a, .m p, e4, e5, .u] ∧ μ = [(p, .lst ((((setT (rest0 ks ps)).take i).foldl (cbStep (cbS n ks) ks ps) ([], kv)).1.map rowD)), (a, .dT (kt (kvT (((setT (rest0 ks ps)).take i).foldl (cbStep (cbS n ks) ks ps) ([], kv)).2)))]) ⟨_, _, rfl, rfl⟩ ?_ ?_
      · rintro B' hB i y δ1 μ1 hi ⟨e4, e5, rfl, rfl⟩
        obtain ⟨x, hx, rfl⟩ := ts_back hi
        have hxm := hmem x (List.mem_of_getElem? hx)
        refine ⟨[4], _, tg_name, ?_⟩
        have I := inv i
        have nxt : ((setT (rest0 ks ps)).take (i + 1)).foldl (cbStep (cbS n ks) ks ps) ([], kv) = cbStep (cbS n ks) ks ps (((setT (rest0 ks ps)).take i).foldl (cbStep (cbS n ks) ks ps) ([], kv)) x := by
          rw [take_succ' hx, List.foldl_append]
          rfl
        have Inx := inv (i + 1)
        have hts : ((setT (rest0 ks ps)).take (i + 1)).Nodup := hnd.sublist (List.take_sublist _ _)
        have hfew := inv_few Inx hts (fun d hd => hmem d (List.mem_of_mem_take hd)) hfw
        have hlen2 : (((setT (rest0 ks ps)).take i).foldl (cbStep (cbS n ks) ks ps) ([], kv)).2.length + 2 ^ (rem ks ps - 1 - ix x (rest0 ks ps)) ≤ 5000 := by
          have h1 := I.len
          have h2 := tsum_le hts fun d hd => hmem d (List.mem_of_mem_take hd)
          have h3 := c.len
          have h4 : (rest0 ks ps).length = rem ks ps := rfl
          rw [take_succ' hx, List.map_append, List.sum_append, h4] at h2
          simp only [List.map_cons, List.map_nil, List.sum_cons, List.sum_nil] at h2
          omega
        generalize ((setT (rest0 ks ps)).take i).foldl (cbStep (cbS n ks) ks ps) ([], kv) = st at I nxt hlen2
        show Run _ _ _ _ [.rw ks, .h ((pI ps).map .int), .m a, .m p, .d (.str x), e5, .u] [(p, .lst (st.1.map rowD)), (a, .dT (kt (kvT st.2)))]
        refine q_asg (e := phE (phT ks ps x ks.length)) (x_callG0 (a_cons (x_vrw rfl) (a_cons (x_vh rfl) (a_cons (x_vd rfl) a_nil))) ⟨ks, ps, x, rfl, rfl, rfl, c.pl.symm, by have := c.h2; omega, rfl⟩) ?_
        have nx2 : cbStep (cbS n ks) ks ps st x = (match phT ks ps x ks.length with
          | none => st
          | some bh => (st.1 ++ (cbS n ks bh st.2).1.map (fun r => x :: r), (cbS n ks bh st.2).2)) := rfl
        rw [nx2] at nxt
        clear nx2
        cases hph : phT ks ps x ks.length with
        | none =>
          rw [hph] at nxt
          dsimp only at nxt
          show Run _ _ _ _ [.rw ks, .h ((pI ps).map .int), .m a, .m p, .d (.str x), .d .none, .u] [(p, .lst (st.1.map rowD)), (a, .dT (kt (kvT st.2)))]
          refine r_if (t_test (x_op (x_vd rfl) x_non o_notN)) (fun z => by cases z) fun _ => ?_
          exact r_next fun σ H o => ⟨_, _, ⟨_, _, rfl, by rw [nxt]⟩, o⟩
        | some bh =>
          rw [hph] at nxt
          dsimp only at nxt
          show Run _ _ _ _ [.rw ks, .h ((pI ps).map .int), .m a, .m p, .d (.str x), .h ((pI bh).map .int), .u] [(p, .lst (st.1.map rowD)), (a, .dT (kt (kvT st.2)))]
          obtain ⟨r1, r2, r3⟩ := rem_behind hph c.h0
          have cn : Cnd ks bh st.2 := ⟨c.h0, c.h2, c.good, c.few.imp (fun h => by omega) (fun h => ⟨by omega, cap_mono h.2 hph⟩), (phT_some hph).1, I.ok, by rw [r1]; exact hlen2⟩
          have g := (cb_ok ks c.h0 n bh st.2 cn.pl (by omega) cn.ok).1
          refine r_if (t_test (x_op (x_vht rfl) x_non o_notN)) (fun _ => ?_) (fun z => by cases z)
          have l1 : (cbS n ks bh st.2).1.length ≤ 64 := by
            have z := hfew
            rw [nxt, List.length_append, List.length_map] at z
            omega
          have hel : ∀ r ∈ (cbS n ks bh st.2).1, Good r ∧ r.length ≤ 100 := fun r hr => com_good c.h0 c.good (g.com r hr)
          refine r_ext (j := 0) (ds := st.1.map rowD) (es := ((cbS n ks bh st.2).1.map fun r => x :: r).map rowD) (x_vm rfl) rfl (x_is (x_lcPl (ts := [6]) (fun j => rowD (x :: (cbS n ks bh st.2).1.getD j [])) (i_tup (x_callE1w 1 (a_cons (x_vrw rfl) (a_cons (x_vh rfl) (a_cons (x_vm rfl) a_nil))) rfl ⟨a, ks, bh, st.2, rfl, rfl, cn, by omega, rfl, rfl⟩)) (by rw [List.length_map]; omega)
            (fun j => [.rw ks, .h ((pI ps).map .int), .m a, .m p, .d (.str x), .h ((pI bh).map .int), .d (rowD ((cbS n ks bh st.2).1.getD j []))]) (fun j d hj => ?_) (fun k hk => hk) fun j d hj G' B'' D' => ?_) ?_) rfl ?_ fun σ H o => ⟨_, _, ⟨_, _, rfl, ?_⟩, o⟩
          · obtain ⟨r, hr, rfl, er⟩ := rows_get hj
            rw [er]
            exact tg_name
          · obtain ⟨r, hr, rfl, er⟩ := rows_get hj
            have := (hel r (List.mem_of_getElem? hr)).2
            rw [er]
            exact x_op (x_tup (ds := [.str x]) (a_cons (x_vd rfl) a_nil) (by simp)) (x_vd rfl) (o_catT (by rw [List.length_map]; simp; omega))
          · rw [List.length_map, range_map (cbS n ks bh st.2).1 [] fun r => rowD (x :: r), List.map_map]
            rfl
          · rw [List.length_map, List.length_map, List.length_map]
            rw [nxt, List.length_append, List.length_map] at hfew
            omega
          · rw [nxt, List.map_append]
            rfl
      · rintro δ1 μ1 ⟨e4, e5, rfl, rfl⟩
        rw [List.length_map, List.take_length]
        have I := inv (setT (rest0 ks ps)).length
        rw [List.take_length] at I
        have hfew := inv_few I hnd hmem hfw
        have htl : ((setT (rest0 ks ps)).foldl (cbStep (cbS n ks) ks ps) ([], kv)).2.length < 5000 := by
          have h1 := I.len
          have h2 := tsum_le hnd hmem
          have h3 := c.len
          have h4 : (rest0 ks ps).length = rem ks ps := rfl
          rw [h4] at h2
          omega
        have hno : lk ((setT (rest0 ks ps)).foldl (cbStep (cbS n ks) ks ps) ([], kv)).2 ps = none := lk_none fun q hq e => by
          rcases I.keys q hq with z | z
          · exact lk_no hlk q z e
          · rw [e] at z; exact Nat.lt_irrefl _ z
        generalize (setT (rest0 ks ps)).foldl (cbStep (cbS n ks) ks ps) ([], kv) = st at I hfew htl hno fin
        have hel : ∀ r ∈ st.1, Good r ∧ r.length ≤ 100 := fun r hr => com_good c.h0 c.good (I.com r hr)
        show Run _ _ _ (p :: M) [.rw ks, .h ((pI ps).map .int), .m a, .m p, e4, e5, .u] [(p, .lst (st.1.map rowD)), (a, .dT (kt (kvT st.2)))]
        refine r_dputTw (j := 1) (k := pI ps) (l := kvT st.2) (d := .tuple ((endR st.1).map rowD)) (x_is (x_if2 (t_test (x_op (x_vm rfl) (x_lst (ds := []) a_nil (by simp)) (o_neD (.m (j := 0) rfl) (.d _) (Shp.shaped (n := 2) (shp_list fun d hd => ?_) (by decide)) ((shp_nil 0).shaped (by decide))))) (x_callE1 (mo := .lst (st.1.map rowD)) (a_cons (x_vm rfl) a_nil) List.mem_cons_self ⟨p, st.1, rfl, rfl, rfl, hfew, fun r hr => ⟨(hel r hr).1, by have := (hel r hr).2; omega⟩, rfl⟩) (x_tup (ds := [.tuple []]) (a_cons (x_tup (ds := []) a_nil (by simp)) a_nil) (by simp))) ?_) (x_vm rfl) (x_vh rfl) rfl (by rw [val_lk, hno]; rfl) (by unfold kvT; rw [List.length_map]; exact Nat.lt_trans htl (by decide)) fun σ H o => ?_
        · obtain ⟨r, hr, rfl⟩ := List.mem_map.mp hd
          exact shp_ts 0 (hel r hr).1
        · rw [eqv_empty]
          unfold endR
          by_cases q : st.1 = []
          · rw [q]; rfl
          · have : (st.1.map rowD).isEmpty = false := by
              cases z : st.1 with
              | nil => exact absurd z q
              | cons _ _ => rfl
            rw [this, if_neg q]; rfl
        · have o2 := o
          rw [← kvT_snoc] at o2
          refine (r_retE (μ' := [(a, .dT (kt (kvT (st.2 ++ [(ps, endR st.1)]))))]) (x_dgetT (k := pI ps) (l := kvT (st.2 ++ [(ps, endR st.1)])) (d := .tuple ((endR st.1).map rowD)) (x_vm rfl) (x_vh rfl) (List.mem_cons_of_mem _ (List.mem_singleton.mpr rfl)) ?_) (fun z hz => List.mem_cons_of_mem _ hz) ?_) σ H o2
          · rw [val_lk]
            unfold lk
            unfold lk at hno
            rw [List.find?_append]
            cases z : st.2.find? (fun p => decide (p.1 = ps)) with
            | some y => rw [z] at hno; cases hno
            | none =>
              rw [List.find?_cons, decide_eq_true rfl]; rfl
          · exact fin
    · cases hlk : lk kv ps with
      | none =>
        rw [val_lk, hlk] at hb
        cases hb
      | some R =>
        have ecb : cbS (n + 1) ks ps kv = (R, kv) := by
          unfold cbS
          rw [hlk]
        rw [ecb] at fin
        exact r_retE (x_dgetT (x_vm rfl) (x_vh rfl) (List.mem_singleton.mpr rfl) (by rw [val_lk, hlk]; rfl)) (fun z hz => hz) fin
end
end K02
namespace FD
open PySem PySem.Spec L2 Evl PyProof.Rows
section
variable {C : Cfg} {M : List Addr} {δ : List Ent} {μ μ1 μ2 : Mem} {ta : TE} {D : Ends} {n : Nat} {tr : TA} {E : XK} {Cx : Addr} {fld : Str} {d : PyData} {es es' : List Ent} {x : V} {gV : List V → List V → List V}
theorem x_inordL {rs : List (List Str)} (h : EvX C ta M δ μ μ1 (.lr rs)) (hl : rs.length < 64) :
    EvX C (tCB (rTupleS C.K) (tCons (tSortLen C.K (tSTt C.K ta)) tNil)) M δ μ μ1 (.rw (ordT rs)) := fun σ H o Q k => by
  show ta σ H _
  refine h σ H o _ fun v H1 o1 x1 r1 => ?_
  obtain ⟨l, vs, ev, hs, hd⟩ := r1
  obtain ⟨ks, e1, e2, e3⟩ := rows_prow hd
  subst e1 e2
  have st : ∀ q ∈ ks, SqT C.K (hide M H1) q.1 (q.2.map V.str) := fun q hq => by
    obtain ⟨a, z1, z2, _⟩ := e3 q hq
    cases z1
    exact z2
  rw [List.length_map] at hl
  refine ⟨l, ks, ev, .inl (ex_l hide_le hs), fun q hq => ex_t hide_le (st q hq), hl, fun p L sub cov nd asc hp => ?_⟩
  have eL : L.map (·.2) = ordS (ks.map (·.2)) := by
    refine asc_one asc (ordS_asc _) ((perm_rows nd (onceR_nodup _) fun x => ?_).trans (ordS_perm _).symm)
    rw [onceR_mem]
    constructor
    · intro z
      obtain ⟨q, hq, e⟩ := List.mem_map.mp z
      exact List.mem_map.mpr ⟨q, sub q hq, e⟩
    · intro z
      obtain ⟨q, hq, e⟩ := List.mem_map.mp z
      rw [← e]; exact cov q hq
  have g1 : Ex H1 (upd H1 p (.lst (L.map fun q => V.ref q.1))) := Ex.new hp
  have o2 := o1.grow g1
  refine ⟨p, L.map fun q => (V.ref q.1, q.2.length), rfl, ?_, fun y hy => ?_, fun p2 hp2 => ?_⟩
  · rw [List.map_map]
    exact SqL.of upd_same
  · obtain ⟨q, hq, e⟩ := List.mem_map.mp hy
    rw [← e]
    exact ⟨q.1, q.2.map V.str, rfl, ex_t g1 (ex_t hide_le (st q (sub q hq))), List.length_map _⟩
  · have eb : byLen V (L.map fun q => (V.ref q.1, q.2.length)) = (byLen (Addr × List Str) (L.map fun q => (q, q.2.length))).map fun p => (V.ref p.1.1, p.2) := by
      rw [← byLen_map (fun q : Addr × List Str => V.ref q.1), List.map_map]
      rfl
    obtain ⟨L3, e4⟩ : ∃ L3, L3 = (byLen (Addr × List Str) (L.map fun q => (q, q.2.length))).map (·.1) := ⟨_, rfl⟩
    have e5 : (byLen V (L.map fun q => (V.ref q.1, q.2.length))).map (·.1) = L3.map fun q => V.ref q.1 := by
      rw [eb, e4, List.map_map, List.map_map]
      rfl
    have e6 : L3.map (·.2) = ordT (ks.map (·.2)) := by
      have z : byLen (List Str) ((L.map (·.2)).map fun k => (k, k.length)) = (byLen (Addr × List Str) (L.map fun q => (q, q.2.length))).map fun p => (p.1.2, p.2) := by
        rw [← byLen_map (fun q : Addr × List Str => q.2), List.map_map, List.map_map]
        rfl
      have z2 := byLen_rows (L.map (·.2))
      rw [z, List.map_map] at z2
      unfold ordT
      rw [← eL, ← z2, e4, List.map_map]
      rfl
    have sub3 : ∀ q ∈ L3, q ∈ L := fun q hq => by
      rw [e4] at hq
      obtain ⟨p, hp, e⟩ := List.mem_map.mp hq
      obtain ⟨r, hr, er⟩ := List.mem_map.mp ((List.mergeSort_perm _ _).mem_iff.mp hp)
      rw [← e, ← er]; exact hr
    rw [e5]
    have g2 : Ex (upd H1 p (.lst (L.map fun q => V.ref q.1))) (upd (upd H1 p (.lst (L.map fun q => V.ref q.1))) p2 (.lst (L3.map fun q => V.ref q.1))) := Ex.new hp2
    have o3 := o2.grow g2
    refine ⟨p2, _, rfl, .inl ⟨SqL.of upd_same, fun l hl => ?_⟩⟩
    have x3 := (hide_ex (M := M) g1).trans (hide_ex g2)
    have pd : Paired (PRow C.K (hide M (upd (upd H1 p (.lst (L.map fun q => V.ref q.1))) p2 (.lst (L3.map fun q => V.ref q.1))))) (L3.map (·.2)) (L3.map fun q => V.ref q.1) := by
      refine prow_rows fun q hq => ?_
      exact PRow.mono x3 (e3 q (sub q (sub3 q hq)))
    obtain ⟨o4, x4, d4⟩ := o3.tup hl (prows_dp pd)
    rw [e6] at pd
    refine k _ _ o4 (((x1.trans (hide_ex g1)).trans (hide_ex g2)).trans x4) ⟨l, _, rfl, st_of ?_, Paired.mapP pd fun _ _ q => PRow.mono x4 q⟩
    rw [hide_out (o3.fresh hl), upd_same]
theorem x_callEX0 {R : List Ent → Mem → PyData → Mem → Prop} {Rx : List Ent → Mem → V → Prop} (h : EvA C tr M δ μ μ1 es) (hR : R es [] d []) (hn : es.length = n := by rfl) : EvX C (tCall (spEX C.K n R Cx fld Rx) [] E tr) M δ μ μ1 (.d d) := fun σ H o Q k =>
  h σ H o _ fun vs H1 o1 x1 r1 => by
    rw [List.append_nil]
    refine ⟨by rw [← paired_len r1]; exact hn, M, es, [], o1.alloc, r1, (fun p hp => absurd hp List.not_mem_nil), .nil, .inl ⟨d, [], rfl, hR, fun v H2 e2 m2 d2 => ?_⟩⟩
    have e3 : Ex H1 H2 := fun b u e => e2 b u (by show hide [] H1 b = some u; rw [hide_out List.not_mem_nil]; exact e)
    exact k v H2 (o1.grow e3) (x1.trans (hide_ex e3)) d2
theorem x_callEXN0 {m : Nat} {R : List Ent → Mem → PyData → Mem → Prop} {Rx : List Ent → Mem → V → Prop} (h : EvA C tr M δ μ μ1 es) (hg : ∀ (H : Hp) (zs : List V), Paired (EntOk C.K H) es zs → Paired (EntOk C.K H) es' (gV [] zs)) (hR : R es' [] d []) (hm : es.length = m := by rfl) (hn : es'.length = n := by rfl) : EvX C (tCallN 0 m (spEX C.K n R Cx fld Rx) gV E tNil tr) M δ μ μ1 (.d d) := fun σ H o Q k =>
  h σ H o _ fun vs H1 o1 x1 r1 => by
    have d1 := hg _ _ r1
    refine ⟨rfl, by rw [← paired_len r1]; exact hm, by rw [← paired_len d1]; exact hn, M, es', [], o1.alloc, d1, (fun p hp => absurd hp List.not_mem_nil), .nil, .inl ⟨d, [], rfl, hR, fun v H2 e2 m2 d2 => ?_⟩⟩
    have e3 : Ex H1 H2 := fun b u e => e2 b u (by show hide [] H1 b = some u; rw [hide_out List.not_mem_nil]; exact e)
    exact k v H2 (o1.grow e3) (x1.trans (hide_ex e3)) d2
/-- the error of a call goes through -/
theorem r_callEX0 {R : List Ent → Mem → PyData → Mem → Prop} {Rx : List Ent → Mem → V → Prop} (h : EvA C tr M δ μ μ1 es) (hR : Rx es [] x) (k : FinEX C Cx fld x E []) (hn : es.length = n := by rfl) : FD.Run C (tRet (tCall (spEX C.K n R Cx fld Rx) [] E tr)) D M δ μ := fun σ H o =>
  h σ H o _ fun vs H1 o1 x1 r1 => by
    rw [List.append_nil]
    refine ⟨by rw [← paired_len r1]; exact hn, M, es, [], o1.alloc, r1, (fun p hp => absurd hp List.not_mem_nil), .nil, .inr ⟨x, hR, fun dd H2 e2 m2 nM q => ?_⟩⟩
    have e3 : Ex H1 H2 := fun b u e => e2 b u (by show hide [] H1 b = some u; rw [hide_out List.not_mem_nil]; exact e)
    have o2 := o1.grow e3
    exact k dd M H2 o2.gr o2.sub (fun p hp => absurd hp List.not_mem_nil) nM q
end
end FD
namespace K02
open PySem L2 FD Evl
def zeros (n : Nat) : List Nat := List.replicate n 0
def comA (rs : List (List Str)) : List (List Str) := (cbS 13 (ordT rs) (zeros (ordT rs).length) []).1
def remA (rs : List (List Str)) : Nat := ((ordT rs).getD 0 []).length
theorem zeros_get (n i : Nat) : (zeros n).getD i 0 = 0 := by
  unfold zeros
  rw [List.getD_eq_getElem?_getD, List.getElem?_replicate]
  split <;> rfl
theorem zeros_h (n : Nat) : ((List.range n).map fun _ => PyData.int 0) = (pI (zeros n)).map .int := by
  unfold zeros pI
  rw [List.map_map]
  refine List.ext_getElem? fun i => ?_
  rw [List.getElem?_map, List.getElem?_map]
  by_cases h : i < n
  · rw [List.getElem?_range h, List.getElem?_replicate, if_pos h]; rfl
  · rw [List.getElem?_eq_none (by simp; omega), List.getElem?_eq_none (by simp; omega)]; rfl
theorem remA_eq (rs : List (List Str)) : rem (ordT rs) (zeros (ordT rs).length) = remA rs := by
  unfold rem rest0 remA
  rw [zeros_get, List.drop_zero]
structure RAok (rs : List (List Str)) : Prop where
  ne : rs ≠ []
  small : rs.length ≤ 40
  good : ∀ r ∈ rs, Good r ∧ r.length ≤ 100
structure CAok (rs : List (List Str)) : Prop extends RAok rs where
  few : remA rs ≤ 6 ∨ (remA rs ≤ 12 ∧ Cap2 (ordT rs) (zeros (ordT rs).length))
theorem RAok.h0 {rs : List (List Str)} (h : RAok rs) : 0 < (ordT rs).length := List.length_pos_iff.mpr fun z => by
  obtain ⟨x, hx⟩ := List.exists_mem_of_ne_nil _ h.ne
  have := ordT_mem.mpr hx
  rw [z] at this; cases this
theorem CAok.r12 {rs : List (List Str)} (h : CAok rs) : remA rs ≤ 12 := h.few.elim (fun z => by omega) fun z => z.1
theorem ca_cnd {rs : List (List Str)} (h : CAok rs) : Cnd (ordT rs) (zeros (ordT rs).length) [] ∧ rem (ordT rs) (zeros (ordT rs).length) < 13 := by
  have e := remA_eq rs
  have r12 := h.r12
  have hl := ordT_len rs
  have hs := h.small
  refine ⟨⟨h.h0, by omega, fun k hk => h.good k (ordT_mem.mp hk), by rw [e]; exact h.few, List.length_replicate, fun p hp => absurd hp (by simp), ?_⟩, by rw [e]; omega⟩
  have : 2 ^ rem (ordT rs) (zeros (ordT rs).length) ≤ 2 ^ 12 := Nat.pow_le_pow_right (by decide) (by rw [e]; exact r12)
  rw [List.length_nil]
  omega
theorem com_all {rs : List (List Str)} {w : List Str} : Com (ordT rs) (zeros (ordT rs).length) w ↔ ∀ r ∈ rs, w.Sublist r := by
  constructor
  · intro c r hr
    obtain ⟨i, hi⟩ := List.getElem?_of_mem (ordT_mem.mpr hr)
    have hl := (List.getElem?_eq_some_iff.mp hi).1
    have := c i hl
    rw [zeros_get, List.drop_zero, List.getD_eq_getElem?_getD, hi] at this
    exact this
  · intro h i hi
    rw [zeros_get, List.drop_zero]
    refine h _ (ordT_mem.mp ?_)
    rw [List.getD_eq_getElem?_getD, List.getElem?_eq_getElem hi]
    exact List.getElem_mem hi
theorem comA_ok {rs : List (List Str)} (h : CAok rs) : GoodR (ordT rs) (zeros (ordT rs).length) (comA rs) := by
  obtain ⟨c, r8⟩ := ca_cnd h
  exact (cb_ok (ordT rs) c.h0 13 (zeros (ordT rs).length) [] c.pl r8 c.ok).1
def isRw (e : Ent) (rs : List (List Str)) : Prop := e = .rw rs ∨ e = .lr rs
def RioQ (es : List Ent) (μ : Mem) (e : Ent) (μ' : Mem) : Prop := ∃ (x : Ent) (rs : List (List Str)), es = [x] ∧ isRw x rs ∧ μ = [] ∧ μ' = [] ∧ rs.length < 64 ∧ e = .rw (ordT rs)
def Rca (es : List Ent) (μ : Mem) (d : PyData) (μ' : Mem) : Prop := ∃ (x : Ent) (rs : List (List Str)), es = [x] ∧ isRw x rs ∧ μ = [] ∧ μ' = [] ∧ CAok rs ∧ d = .tuple ((comA rs).map rowD)
def Rcx (es : List Ent) (μ : Mem) (v : V) : Prop := ∃ (x : Ent) (rs : List (List Str)), es = [x] ∧ isRw x rs ∧ μ = [] ∧ RAok rs ∧ 12 < remA rs ∧ v = .str "long"
def Rco (es : List Ent) (μ : Mem) (d : PyData) (μ' : Mem) : Prop := ∃ u v : List Str, es = [.p u, .p v] ∧ μ = [] ∧ μ' = [] ∧ CAok [u, v] ∧ d = .tuple ((comA [u, v]).map rowD)
def Rox (es : List Ent) (μ : Mem) (y : V) : Prop := ∃ u v : List Str, es = [.p u, .p v] ∧ μ = [] ∧ RAok [u, v] ∧ 12 < remA [u, v] ∧ y = .str "long"
section
variable {P : Program} {w : World} {K : PySem.W.Frag} {mg : Str → Option Value} {base : Heap} {Cx fI : Addr}
theorem ok_ioQ {f : Addr} {fd : FuncData} (T : Txt mg) (F : Fun K "in_order" "in_order" sIo f fd) : FnOk P w K mg base CX0 1 f fd ["rows"] (spG K 1 RioQ) := by
  refine def_G F scIo (by decide) rfl fun cdv A outer s H E hr => ?_
  refine ⟨_, (pss_one (ps_ret (pe_callTy call_tuple_of (by rfl) T.tuple (by decide +kernel) (pa_cons (pe_sortLen hr.units (by rfl) T.sorted (by rfl) T.len (pa_cons (pe_STt rfl hr.units (by rfl) T.sorted (by rfl) T.set (pv 0)) pa_nil)) pa_nil)))), ?_⟩
  rintro M G B es μ e μ' ⟨x, rs, rfl, hx, rfl, rfl, hl, rfl⟩ D fin
  show FD.Run _ _ D M [x] []
  rcases hx with rfl | rfl
  · exact r_retG (x_inordP (x_vrw rfl) hl) (fun z hz => hz) fin
  · exact r_retG (x_inordL (x_vlr rfl) hl) (fun z hz => hz) fin
abbrev nCa : List Str := ["rows", "kinds", "row"]
theorem scCa : FnScope nCa ["rows"] (defScope sCa) := ⟨rfl, rfl, rfl, by decide +kernel, rfl, by decide +kernel, by decide +kernel⟩
theorem ok_ca {f : Addr} {fd : FuncData} (T : Txt mg) (TE : PySem.ErrRef.ErrTxt K mg P Cx fI) (F : Fun K "common_all" "common_all" sCa f fd) {f0 f1 f2 f3 f4 f5 : Addr} {fd0 fd1 fd2 fd3 fd4 fd5 : FuncData} (H0 : Has K mg "common_behind" sCb ["rows", "places", "known"] f0 fd0) (H1 : Has K mg "places_behind" sPb ["rows", "places", "deed"] f1 fd1) (H2 : Has K mg "greatest_rows" sGr ["rows"] f2 fd2)
    (H3 : Has K mg "in_order" sIo ["rows"] f3 fd3) (H4 : Has K mg "within" sWi ["u", "v"] f4 fd4) (H5 : Has K mg "first_fit" sFf ["u", "v"] f5 fd5) : FnOk P w K mg base (L2.CX P w) 17 f fd ["rows"] (spEX K 1 Rca Cx "word" Rcx) := by
  have G0 : FnOk P w K mg base CX0 16 f0 fd0 ["rows", "places", "known"] (spE K 3 (Rcb 13)) := ok_cb T H0 H1 H2 H3 H4 H5 13
  have G3 : FnOk P w K mg base CX0 1 f3 fd3 ["rows"] (spG K 1 RioQ) := ok_ioQ T H3.F
  obtain ⟨t12, ht12⟩ := T.lc
  refine def_EX F scCa (by decide) rfl fun cdv A outer s H E hr => ?_
  have nd := scCa.nd
  refine ⟨_, (pss_cons (ps_set (i := 1) nd rfl (Or.inl rfl) (pe_call G3 (hr.mono (by decide)) rfl H3.m H3.F.kp H3.b .nil pass0 (pa_cons (pv 0) pa_nil)))
 (pss_cons (ps_if (pt_cmpR op_gt (pe_callB call_len_seq (by rfl) T.len PySem.boot_len (pa_cons (pe_ix ix_tup (pv 1) pe_int (fun _ _ => rfl)) pa_nil)) (pe_glob (v := .int 12) rfl ht12 ⟨_, rfl⟩) (nomark _)) (pss_one (ps_raise_ErrRef rfl TE hr (takes_of rfl rfl rfl rfl) (pa_cons pe_str pa_nil))) pss_nil)
 (pss_one (ps_ret (pe_call G0 hr rfl H0.m H0.F.kp H0.b .nil pass0 (pa_cons (pv 1) (pa_cons (pe_callTy call_tuple_of (by rfl) T.tuple (by decide +kernel) (pa_cons (pe_lc (own := [("row", 2)]) (g := (gName 2)) (tt := tYes) rfl nd (pi_tup (pv 1)) (blkOk_by (N := nCa) (sc := defScope sCa) (by decide +kernel)) (fun _ _ _ _ _ => (pg_name (i := 2) nd rfl (Or.inl rfl))) (fun _ _ _ _ _ => pts_nil) (fun _ _ _ _ _ => pe_int)) pa_nil)) (pa_cons pe_dnewT pa_nil)))))))), ?_⟩
  intro M G B es μ
  suffices key : ∀ (x : Ent) (rs : List (List Str)), es = [x] → isRw x rs → μ = [] → RAok rs → ∀ D : Ends, (12 < remA rs → FinEX ⟨K, M, G, B⟩ Cx "word" (.str "long") E []) → (remA rs ≤ 12 → CAok rs ∧ FinE ⟨K, M, G, B⟩ D (.tuple ((comA rs).map rowD)) []) → FD.Run ⟨K, M, G, B⟩ _ D M (startE nCa.length es.length es) μ by
    refine ⟨?_, ?_⟩
    · rintro d μ' ⟨x, rs, h1, hx, h2, rfl, ca, rfl⟩ D fin
      exact key x rs h1 hx h2 ca.toRAok D (fun z => by have := ca.r12; omega) fun _ => ⟨ca, fin⟩
    · rintro y ⟨x, rs, h1, hx, rfl, ra, h12, rfl⟩ fin D
      exact key x rs h1 hx rfl ra D (fun _ => fin) fun z => by omega
  · rintro x rs rfl hx rfl ra D finX fin
    have hs := ra.small
    show FD.Run _ _ D M [x, .u, .u] []
    refine q_asg (e := .rw (ordT rs)) (x_callG0 (a_cons (x_var rfl (by rcases hx with rfl | rfl <;> exact fun z => nomatch z)) a_nil) ⟨x, rs, rfl, hx, rfl, rfl, by omega, rfl⟩) ?_
    show FD.Run _ _ D M [x, .rw (ordT rs), .u] []
    have k0 := getD_at ra.h0
    refine q_when (t_test (x_op (x_cbP (a_cons (x_op (x_vrwt rfl) x_int (o_ixT (i := ((0 : Nat) : Int)) (atI_nat (by rw [List.getElem?_map, k0]; rfl)))) a_nil) c_lenT) x_int o_B0)) (fun hb => ?_) fun hb => ?_
    · have h12 := of_decide_eq_true hb
      rw [List.length_map] at h12
      exact r_raiseE (d := .str "long") (μ' := []) x_str (fun H v h => Dp.str_of h) (fun p hp => hp) (finX (by unfold remA; omega))
    · have h12 := of_decide_eq_false hb
      rw [List.length_map] at h12
      obtain ⟨ca, fin⟩ := fin (by unfold remA; omega)
      obtain ⟨c, r8⟩ := ca_cnd ca
      refine r_retNewT (e1 := .rw (ordT rs)) (e2 := .h ((pI (zeros (ordT rs).length)).map .int)) (kvs' := .dT (kt (kvT (cbS 13 (ordT rs) (zeros (ordT rs).length) []).2))) (x_vrw rfl) (x_is (x_cbP (a_cons (x_lcP (ts := [2]) (fun _ => .int 0) (i_tup (x_vrwt rfl)) (by rw [List.length_map]; have := c.h2; omega) (fun j => [x, .rw (ordT rs), .d (rowD ((ordT rs).getD j []))]) (fun j d hj => ?_) (fun k hk => hk) fun j d hj G' B'' D' => x_int) a_nil) (c_tupleLh (.d _))) ?_) (fun p => ⟨p, ordT rs, zeros (ordT rs).length, [], rfl, rfl, c, r8, rfl, rfl⟩) fin
      · obtain ⟨r, hr, rfl, er⟩ := rows_get hj
        rw [er]
        exact tg_name
      · rw [List.length_map, zeros_h]
abbrev nCo : List Str := ["u", "v"]
theorem scCo : FnScope nCo ["u", "v"] (defScope sCo) := ⟨rfl, rfl, rfl, by decide +kernel, rfl, by decide +kernel, by decide +kernel⟩
theorem ok_co {f : Addr} {fd : FuncData} (T : Txt mg) (TE : PySem.ErrRef.ErrTxt K mg P Cx fI) (F : Fun K "common" "common" sCo f fd) {f0 f1 f2 f3 f4 f5 f6 : Addr} {fd0 fd1 fd2 fd3 fd4 fd5 fd6 : FuncData} (H6 : Has K mg "common_all" sCa ["rows"] f6 fd6) (H0 : Has K mg "common_behind" sCb ["rows", "places", "known"] f0 fd0) (H1 : Has K mg "places_behind" sPb ["rows", "places", "deed"] f1 fd1) (H2 : Has K mg "greatest_rows" sGr ["rows"] f2 fd2)
    (H3 : Has K mg "in_order" sIo ["rows"] f3 fd3) (H4 : Has K mg "within" sWi ["u", "v"] f4 fd4) (H5 : Has K mg "first_fit" sFf ["u", "v"] f5 fd5) : FnOk P w K mg base (L2.CX P w) 18 f fd ["u", "v"] (spEX K 2 Rco Cx "word" Rox) := by
  have G6 : FnOk P w K mg base (L2.CX P w) 17 f6 fd6 ["rows"] (spEX K 1 Rca Cx "word" Rcx) := ok_ca T TE H6.F H0 H1 H2 H3 H4 H5
  refine def_EX F scCo (by decide) rfl fun cdv A outer s H E hr => ?_
  refine ⟨_, (pss_one (ps_ret (pe_call G6 hr rfl H6.m H6.F.kp H6.b .nil (passes_call (W := fun cls d _ H => E cls d H) (takes_of rfl rfl rfl rfl) (fun _ _ _ _ h => h)) (pa_cons (pe_tup (pa_cons (pv 0) (pa_cons (pv 1) pa_nil))) pa_nil)))), ?_⟩
  intro M G B es μ
  refine ⟨?_, ?_⟩
  · rintro d μ' ⟨u, v, rfl, rfl, rfl, ca, rfl⟩ D fin
    show FD.Run _ _ D M [.p u, .p v] []
    exact r_retE (x_callEX0 (a_cons (x_tupR (ks := [u, v]) (a_cons (x_vp rfl) (a_cons (x_vp rfl) a_nil)) (by simp)) a_nil) ⟨_, [u, v], rfl, .inl rfl, rfl, rfl, ca, rfl⟩) (fun z hz => hz) fin
  · rintro y ⟨u, v, rfl, rfl, ra, h12, rfl⟩ fin D
    show FD.Run _ _ D M [.p u, .p v] []
    exact r_callEX0 (a_cons (x_tupR (ks := [u, v]) (a_cons (x_vp rfl) (a_cons (x_vp rfl) a_nil)) (by simp)) a_nil) ⟨_, [u, v], rfl, .inl rfl, rfl, ra, h12, rfl⟩ fin
end
end K02
namespace K02
open PySem L2 FD Evl
open K83 (fit fit_snoc fitStep fit_le)
theorem snoc_ex {α : Type} : ∀ {l : List α}, l ≠ [] → ∃ g z, l = g ++ [z]
  | [x], _ => ⟨[], x, rfl⟩
  | x :: y :: r, _ => let ⟨g, z, e⟩ := snoc_ex (l := y :: r) (by simp); ⟨x :: g, z, by rw [e]; rfl⟩
def Rli (ds : List PyData) (d : PyData) : Prop := ∃ u v : List Str, ds = [ts u, ts v] ∧ Good u ∧ Good v ∧ u.length ≤ 1000 ∧ v.length ≤ 1000 ∧ d = .bool (decide (u.Sublist v))
def Ria (ds : List PyData) (d : PyData) : Prop := ∃ (row : List Str) (rs : List (List Str)), ds = [ts row, .list (rs.map rowD)] ∧ Good row ∧ row.length ≤ 1000 ∧ (∀ r ∈ rs, Good r ∧ r.length ≤ 1000) ∧ rs.length ≤ 1000 ∧ d = .bool (rs.all fun o => decide (row.Sublist o))
/-- how many of u are still to be found, from the right -/
def lef (u v : List Str) (i : Nat) : Nat := u.length - fit u.reverse 0 (v.reverse.take i)
theorem lef_all (u v : List Str) : (lef u v v.length = 0) ↔ u.Sublist v := by
  unfold lef
  have e : v.reverse.take v.length = v.reverse := by rw [← List.length_reverse, List.take_length]
  rw [e]
  have h := (fit_le u.reverse v.reverse 0).2 (Nat.zero_le _)
  rw [List.length_reverse] at h
  rw [← List.reverse_sublist, ← fit_sub, List.length_reverse]
  omega
def subs (row : List Str) : List (List Str) := row.foldl (fun f d => f ++ f.map fun r => r ++ [d]) [[]]
def onceA (l : List (List Str)) : List (List Str) := l.foldl (fun acc x => if acc = [] ∨ acc.getLast? ≠ some x then acc ++ [x] else acc) []
def stru (row : List Str) : List (List Str) := onceA ((subs row).mergeSort leR)
theorem subs_snoc (row : List Str) (d : Str) : subs (row ++ [d]) = subs row ++ (subs row).map fun r => r ++ [d] := by
  unfold subs; rw [List.foldl_append]; rfl
theorem subs_len : ∀ (n : Nat) (row : List Str), row.length = n → (subs row).length = 2 ^ n
  | 0, row, h => by rw [List.eq_nil_of_length_eq_zero h]; rfl
  | n + 1, row, h => by
    obtain ⟨r, d, rfl⟩ : ∃ r d, row = r ++ [d] := snoc_ex (fun z => by rw [z] at h; cases h)
    have hr : r.length = n := by rw [List.length_append] at h; exact Nat.succ.inj h
    rw [subs_snoc, List.length_append, List.length_map, subs_len n r hr, Nat.pow_succ]; omega
theorem subs_sub : ∀ (n : Nat) (row : List Str), row.length = n → ∀ r ∈ subs row, r.Sublist row
  | 0, row, h, r, hr => by
    rw [List.eq_nil_of_length_eq_zero h] at hr ⊢
    have : r = [] := by simpa [subs] using hr
    rw [this]; exact List.Sublist.refl _
  | n + 1, row, h, r, hr => by
    obtain ⟨q, d, rfl⟩ : ∃ q d, row = q ++ [d] := snoc_ex (fun z => by rw [z] at h; cases h)
    have hq : q.length = n := by rw [List.length_append] at h; exact Nat.succ.inj h
    rw [subs_snoc] at hr
    rcases List.mem_append.mp hr with z | z
    · exact (subs_sub n q hq r z).trans (List.sublist_append_left _ _)
    · obtain ⟨r', h', rfl⟩ := List.mem_map.mp z
      exact (subs_sub n q hq r' h').append (List.Sublist.refl _)
theorem onceA_succ {l : List (List Str)} {i : Nat} {r : List Str} (h : l[i]? = some r) : onceA (l.take (i + 1)) = if onceA (l.take i) = [] ∨ (onceA (l.take i)).getLast? ≠ some r then onceA (l.take i) ++ [r] else onceA (l.take i) := by
  unfold onceA
  rw [List.take_add_one, h]
  show List.foldl _ _ (l.take i ++ [r]) = _
  rw [List.foldl_append]; rfl
theorem onceA_mem : ∀ (l f : List (List Str)), ∀ x ∈ l.foldl (fun acc x => if acc = [] ∨ acc.getLast? ≠ some x then acc ++ [x] else acc) f, x ∈ f ∨ x ∈ l
  | [], f, x, h => .inl h
  | r :: l, f, x, h => by
    rw [List.foldl_cons] at h
    rcases onceA_mem l _ x h with z | z
    · split at z
      · rcases List.mem_append.mp z with z | z
        · exact .inl z
        · exact .inr (List.mem_cons.mpr (.inl (List.mem_singleton.mp z)))
      · exact .inl z
    · exact .inr (List.mem_cons_of_mem _ z)
theorem onceA_len : ∀ (l f : List (List Str)), (l.foldl (fun acc x => if acc = [] ∨ acc.getLast? ≠ some x then acc ++ [x] else acc) f).length ≤ f.length + l.length
  | [], f => Nat.le_refl _
  | r :: l, f => by
    rw [List.foldl_cons]
    refine Nat.le_trans (onceA_len l _) ?_
    split
    · simp only [List.length_append, List.length_cons, List.length_nil]; omega
    · simp only [List.length_cons]; omega
theorem stru_sub {row r : List Str} (h : r ∈ stru row) : r.Sublist row := by
  rcases onceA_mem _ _ r h with z | z
  · cases z
  · exact subs_sub _ row rfl r ((List.mergeSort_perm _ _).mem_iff.mp z)
def Rsa (ds : List PyData) (d : PyData) : Prop := ∃ row : List Str, ds = [ts row] ∧ Good row ∧ row.length ≤ 6 ∧ d = .list ((stru row).map rowD)
section
variable {P : Program} {w : World} {K : PySem.W.Frag} {mg : Str → Option Value} {base : Heap}
abbrev nLi : List Str := ["_law_u", "_law_v", "_law_left", "_law_at"]
theorem scLi : FnScope nLi ["_law_u", "_law_v"] (defScope sLi) := ⟨rfl, rfl, rfl, by decide +kernel, rfl, by decide +kernel, by decide +kernel⟩
theorem ok_li {f : Addr} {fd : FuncData} (T : Txt mg) (F : Fun K "_law_lies_in" "_law_lies_in" sLi f fd) : FnOk P w K mg base CX0 1 f fd ["_law_u", "_law_v"] (spR K 2 Rli) := by
  refine def_R F scLi (by decide) fun cdv A outer s H E hr => ?_
  have nd := scLi.nd
  refine ⟨_, (pss_cons (ps_set (i := 2) nd rfl (Or.inl rfl) (pe_callB call_len_seq (by rfl) T.len PySem.boot_len (pa_cons (pv 0) pa_nil)))
 (pss_cons (ps_for PassesOwn.never rfl (pi_range3 (by rfl) T.range (pa_cons (pe_op op_sub (pe_callB call_len_seq (by rfl) T.len PySem.boot_len (pa_cons (pv 1) pa_nil)) pe_int) (pa_cons (pe_op op_sub pe_int pe_int) (pa_cons (pe_op op_sub pe_int pe_int) pa_nil)))) (pg_name (i := 3) nd rfl (Or.inl rfl)) (pss_one (ps_if (PW.pt (pw_and (pt_cmpR op_gt (pv 2) pe_int (nomark _)) (pw_and1 (pt_cmpR (op_eqD hr.units) (pe_ix ix_tup (pv 0) (pe_op op_sub (pv 2) pe_int) (fun _ _ => rfl)) (pe_ix ix_tup (pv 1) (pv 3) (fun _ _ => rfl)) (nomark _))))) (pss_one (ps_set (i := 2) nd rfl (Or.inl rfl) (pe_op op_sub (pv 2) pe_int))) pss_nil)))
 (pss_one (ps_ret (pe_cmpR (op_eqD hr.units) (pv 2) pe_int (nomark _)))))), ?_⟩
  rintro M G B ds d _ ⟨u, v, rfl, gu, gv, lu, lv, rfl⟩ D fin
  show FD.Run _ _ D M [.d (ts u), .d (ts v), .u, .u] []
  have ul : (u.map PyData.str).length = u.length := List.length_map ..
  have vl : (v.map PyData.str).length = v.length := List.length_map ..
  have shi : ∀ i, SeqAt.shaped (.int i) = true := fun i => (shp_int 0 i).shaped (by decide)
  have l0 : lef u v 0 = u.length := by unfold lef; rfl
  refine q_asg (e := .d (.int (lef u v 0 : Nat))) (x_is (x_cbP (a_cons (x_vd rfl) a_nil) c_lenT) (by rw [ul, l0])) ?_
  show FD.Run _ _ D M [.d (ts u), .d (ts v), .d (.int (lef u v 0 : Nat)), .u] []
  refine q_for (i_down (m := ((v.map PyData.str).length : Int) - 1) (n := -1) (a_cons (x_op (x_cbP (a_cons (x_vd rfl) a_nil) c_lenT) x_int o_I0) (a_cons (x_op x_int x_int o_I0) (a_cons (x_op x_int x_int o_I0) a_nil))) (by omega)) (fun i δ μ => ∃ e3, δ = [.d (ts u), .d (ts v), .d (.int (lef u v i : Nat)), e3] ∧ μ = []) ⟨_, rfl, rfl⟩ ?_ ?_
  · rintro B' hB i d δ1 μ1 hi ⟨e3, rfl, rfl⟩
    have hil := (List.getElem?_eq_some_iff.mp hi).1
    rw [downD_length] at hil
    rw [downD_get hil] at hi
    cases hi
    rw [vl] at hil
    have hiv : i < v.length := by omega
    obtain ⟨j, hj⟩ : ∃ j, j + 1 + i = v.length := ⟨v.length - 1 - i, by omega⟩
    have ej : ((v.map PyData.str).length : Int) - 1 - (i : Int) = (j : Int) := by rw [vl]; omega
    rw [ej]
    have hx : v[j]? = some (v.getD j "") := by rw [List.getD_eq_getElem?_getD, List.getElem?_eq_getElem (by omega)]; rfl
    have hxr : v.reverse[i]? = some (v.getD j "") := by
      rw [List.getElem?_reverse hiv, show v.length - 1 - i = j by omega]; exact hx
    generalize v.getD j "" = x at hx hxr
    refine ⟨[3], _, tg_name, ?_⟩
    show FD.Run _ _ _ _ [.d (ts u), .d (ts v), .d (.int (lef u v i : Nat)), .d (.int (j : Int))] []
    have hc := (fit_le u.reverse (v.reverse.take i) 0).2 (Nat.zero_le _)
    rw [List.length_reverse] at hc
    have e0 : lef u v i = u.length - fit u.reverse 0 (v.reverse.take i) := rfl
    have e1 : lef u v (i + 1) = u.length - fitStep u.reverse (fit u.reverse 0 (v.reverse.take i)) x := by
      unfold lef
      rw [take_succ' hxr, fit_snoc]
    generalize fit u.reverse 0 (v.reverse.take i) = c at e0 e1 hc
    have step : (c < u.length ∧ u[u.length - 1 - c]? = some x) ↔ u.reverse[c]? = some x := by
      constructor
      · rintro ⟨a, b⟩
        rw [List.getElem?_reverse a]; exact b
      · intro h
        have a := (List.getElem?_eq_some_iff.mp h).1
        rw [List.length_reverse] at a
        rw [List.getElem?_reverse a] at h
        exact ⟨a, h⟩
    refine r_if (b := decide (u.reverse[c]? = some x)) (t_is (t_and (b := decide (0 < lef u v i)) (c := PyData.eqv (.str (u.getD (lef u v i - 1) "")) (.str x)) (t_is (t_test (x_op (x_vd rfl) x_int o_B0)) (by simp)) (fun hb => ?_) (fun _ => rfl)) ?_) (fun hb => ?_) fun hb => ?_
    · have hb := of_decide_eq_true hb
      have eu : u[lef u v i - 1]? = some (u.getD (lef u v i - 1) "") := by rw [List.getD_eq_getElem?_getD, List.getElem?_eq_getElem (by omega)]; rfl
      refine t_test (x_op (x_op (x_vd rfl) (x_is (e1 := .d (.int ((lef u v i - 1 : Nat) : Int))) (x_op (x_vd rfl) x_int o_I0) (by rw [show ((lef u v i - 1 : Nat) : Int) = (lef u v i : Int) - 1 by omega])) (o_ixT (atI_nat (ts_get eu)))) (x_op (x_vd rfl) (x_vd rfl) (o_ixT (atI_nat (ts_get hx)))) (o_eqD (.d _) (.d _) (sh_str (good_at gu eu)) (sh_str (good_at gv hx))))
    · rw [eqv_str]
      by_cases q : 0 < lef u v i
      · have eu : u[lef u v i - 1]? = some (u.getD (lef u v i - 1) "") := by rw [List.getD_eq_getElem?_getD, List.getElem?_eq_getElem (by omega)]; rfl
        have ec : u.length - 1 - c = lef u v i - 1 := by omega
        have eu' : u[u.length - 1 - c]? = some (u.getD (lef u v i - 1) "") := by rw [ec]; exact eu
        have hh : (u.reverse[c]? = some x) ↔ u.getD (lef u v i - 1) "" = x := step.symm.trans ⟨fun y => Option.some.inj (eu'.symm.trans y.2), fun y => ⟨by omega, by rw [eu', y]⟩⟩
        rw [decide_eq_true q, Bool.true_and, decide_eq_decide.mpr hh]
        exact Bool.beq_eq_decide_eq _ _
      · rw [decide_eq_false q, Bool.false_and, decide_eq_false (fun h => by have := (step.mpr h).1; omega)]
    · have hb := of_decide_eq_true hb
      have ha := (step.mpr hb).1
      refine r_asg (x_op (x_vd rfl) x_int o_I0) fun σ H o => ⟨_, _, ⟨.d (.int (j : Int)), ?_, rfl⟩, o⟩
      have e2 : fitStep u.reverse c x = c + 1 := by unfold K83.fitStep; rw [if_pos hb]
      rw [e2] at e1
      show [_, _, Ent.d (.int ((lef u v i : Int) - 1)), _] = _
      rw [show ((lef u v i : Int) - 1) = ((lef u v (i + 1) : Nat) : Int) by omega]
    · have hb := of_decide_eq_false hb
      have e2 : fitStep u.reverse c x = c := by unfold K83.fitStep; rw [if_neg hb]
      rw [e2, ← e0] at e1
      exact r_next fun σ H o => ⟨_, _, ⟨_, by rw [e1], rfl⟩, o⟩
  · rintro δ1 μ1 ⟨e3, rfl, rfl⟩
    have el : (downD (((v.map PyData.str).length : Int) - 1) (((v.map PyData.str).length : Int) - 1 - (-1)).toNat).length = v.length := by rw [downD_length, vl]; omega
    rw [el]
    have h := lef_all u v
    refine r_retP (x_is (x_op (x_vd rfl) x_int (o_eqD (.d _) (.d _) (shi _) (shi _))) ?_) fin
    rw [eqv_int]
    by_cases z : lef u v v.length = 0
    · rw [z, decide_eq_true (h.mp z)]; rfl
    · rw [decide_eq_false (fun y => z (h.mpr y))]
      have : (((lef u v v.length : Nat) : Int) == 0) = false := beq_eq_false_iff_ne.mpr (by omega)
      rw [this]
abbrev nIa : List Str := ["_law_row_here", "_law_rows", "_law_other"]
theorem scIa : FnScope nIa ["_law_row_here", "_law_rows"] (defScope sIa) := ⟨rfl, rfl, rfl, by decide +kernel, rfl, by decide +kernel, by decide +kernel⟩
theorem ok_ia {f : Addr} {fd : FuncData} (T : Txt mg) (F : Fun K "_law_in_all" "_law_in_all" sIa f fd) {f1 : Addr} {fd1 : FuncData} (H1 : Has K mg "_law_lies_in" sLi ["_law_u", "_law_v"] f1 fd1) : FnOk P w K mg base CX0 2 f fd ["_law_row_here", "_law_rows"] (spR K 2 Ria) := by
  have G1 : FnOk P w K mg base CX0 1 f1 fd1 ["_law_u", "_law_v"] (spR K 2 Rli) := ok_li T H1.F
  refine def_R F scIa (by decide) fun cdv A outer s H E hr => ?_
  have nd := scIa.nd
  refine ⟨_, (pss_one (ps_ret (pe_callB (cr_all rfl) (by rfl) T.all (by decide +kernel) (pa_cons (pe_lc (own := [("_law_other", 2)]) (g := (gName 2)) (tt := tYes) rfl nd (pi_list (pv 1)) (blkOk_by (N := nIa) (sc := defScope sIa) (by decide +kernel)) (fun _ _ _ _ _ => (pg_name (i := 2) nd rfl (Or.inl rfl))) (fun _ _ _ _ _ => pts_nil) (fun _ _ _ _ _ => (pe_call G1 hr rfl H1.m H1.F.kp H1.b .nil pass0 (pa_cons (pv 0) (pa_cons (pv 2) pa_nil))))) pa_nil)))), ?_⟩
  rintro M G B ds d _ ⟨row, rs, rfl, gr, lr, gs, ls, rfl⟩ D fin
  show FD.Run _ _ D M [.d (ts row), .d (.list (rs.map rowD)), .u] []
  refine r_retP (x_is (x_cbP (a_cons (e := .d (.list ((rs.map fun o => decide (row.Sublist o)).map .bool))) (x_is (x_lcP (ts := [2]) (fun i => .bool (decide (row.Sublist (rs.getD i [])))) (i_list (x_vd rfl)) (by rw [List.length_map]; omega) (fun i => [.d (ts row), .d (.list (rs.map rowD)), .d (rowD (rs.getD i []))]) (fun i d hd => ?_) (fun k hk => hk) fun i d hd G' B' D' => ?_) ?_) a_nil) (c_all (.d _))) ?_) fin
  · obtain ⟨r, hr, rfl, er⟩ := rows_get hd
    rw [er]
    exact tg_name
  · obtain ⟨r, hr, rfl, er⟩ := rows_get hd
    have go := gs r (List.mem_of_getElem? hr)
    rw [er]
    exact x_callR (ds := [ts row, ts r]) (a_cons (x_vd rfl) (a_cons (x_vd rfl) a_nil)) ⟨row, r, rfl, gr, go.1, lr, go.2, rfl⟩
  · rw [List.length_map, range_map rs [] fun o => PyData.bool (decide (row.Sublist o)), List.map_map]; rfl
  · rw [List.all_map]; rfl
abbrev nSa : List Str := ["_law_row_here", "_law_found", "_law_deed", "_law_unlike", "_law_one"]
theorem scSa : FnScope nSa ["_law_row_here"] (defScope sSa) := ⟨rfl, rfl, rfl, by decide +kernel, rfl, by decide +kernel, by decide +kernel⟩
theorem ok_sa {f : Addr} {fd : FuncData} (T : Txt mg) (F : Fun K "_law_all_struck" "_law_all_struck" sSa f fd) : FnOk P w K mg base CX0 1 f fd ["_law_row_here"] (spR K 1 Rsa) := by
  refine def_R F scSa (by decide) fun cdv A outer s H E hr => ?_
  have nd := scSa.nd
  refine ⟨_, (pss_cons (ps_set (i := 1) nd rfl (Or.inl rfl) (pe_lst (pa_cons (pe_tup pa_nil) pa_nil)))
 (pss_cons (ps_for PassesOwn.never rfl (pi_tup (pv 0)) (pg_name (i := 2) nd rfl (Or.inr rfl)) (pss_one (ps_set (i := 1) nd rfl (Or.inl rfl) (pe_op op_catL (pv 1) (pe_lc (own := [("_law_one", 4)]) (g := (gName 4)) (tt := tYes) rfl nd (pi_list (pv 1)) (blkOk_by (N := nSa) (sc := defScope sSa) (by decide +kernel)) (fun _ _ _ _ _ => (pg_name (i := 4) nd rfl (Or.inl rfl))) (fun _ _ _ _ _ => pts_nil) (fun _ _ _ _ _ => (pe_op (kop_catA (K := K) rfl) (pv 4) (pe_tup (pa_cons (pv 2) pa_nil)))))))))
 (pss_cons (ps_set (i := 3) nd rfl (Or.inl rfl) (pe_lst pa_nil))
 (pss_cons (ps_for PassesOwn.never rfl (pi_list (pe_callB (cr_sortedRw hr.units) (by rfl) T.sorted (by decide +kernel) (pa_cons (pv 1) pa_nil))) (pg_name (i := 4) nd rfl (Or.inl rfl)) (pss_one (ps_if (PW.pt (pw_or (pt_cmpR (op_eqD hr.units) (pv 3) (pe_lst pa_nil) (nomark _)) (pw_or1 (pt_cmpR (op_neD hr.units) (pe_ix ix_list (pv 3) (pe_op op_sub (pe_callB call_len_seq (by rfl) T.len PySem.boot_len (pa_cons (pv 3) pa_nil)) pe_int) (fun _ _ => rfl)) (pv 4) (nomark _))))) (pss_one (ps_expr (pe_bm PySem.F.plainAttrs_list PySem.F.slot_list_append PySem.F.type_list_append mt_append (pv 3) (pa_cons (pv 4) pa_nil)))) pss_nil)))
 (pss_one (ps_ret (pv 3))))))), ?_⟩
  rintro M G B ds d _ ⟨row, rfl, gr, lr, rfl⟩ D fin
  show FD.Run _ _ D M [.d (ts row), .u, .u, .u, .u] []
  refine q_asg (e := .d (.list ((subs []).map rowD))) (x_lst (ds := [rowD []]) (a_cons (x_tup (ds := []) a_nil (by simp)) a_nil) (by simp)) ?_
  refine q_for (i_tup (x_vd rfl)) (fun i δ μ => ∃ e2, δ = [.d (ts row), .d (.list ((subs (row.take i)).map rowD)), e2, .u, .u] ∧ μ = []) ⟨_, rfl, rfl⟩ ?_ ?_
  · rintro B' hB i d δ1 μ1 hi ⟨e2, rfl, rfl⟩
    obtain ⟨x, hx, rfl⟩ := ts_back hi
    have hil := (List.getElem?_eq_some_iff.mp hx).1
    refine ⟨[2], _, tg_name, ?_⟩
    have nxt : subs (row.take (i + 1)) = subs (row.take i) ++ (subs (row.take i)).map fun r => r ++ [x] := by rw [take_succ' hx, subs_snoc]
    have hlen : (subs (row.take i)).length ≤ 64 := by
      rw [subs_len _ _ rfl]
      have : 2 ^ (row.take i).length ≤ 2 ^ 6 := Nat.pow_le_pow_right (by decide) (by rw [List.length_take]; omega)
      have h6 : (2 : Nat) ^ 6 = 64 := rfl
      omega
    have hsub : ∀ r ∈ subs (row.take i), r.length ≤ 6 := fun r hr => by
      have := (subs_sub _ _ rfl r hr).length_le
      rw [List.length_take] at this
      omega
    generalize subs (row.take i) = S at nxt hlen hsub ⊢
    show FD.Run _ _ _ _ [.d (ts row), .d (.list (S.map rowD)), .d (.str x), .u, .u] []
    have Sl : (S.map rowD).length = S.length := List.length_map _
    refine r_asg (e := .d (.list ((S ++ S.map fun r => r ++ [x]).map rowD))) (x_is (x_op (x_vd rfl) (x_is (e1 := .d (.list ((S.map fun r => r ++ [x]).map rowD))) (x_lcP (ts := [4]) (fun j => rowD (S.getD j [] ++ [x])) (i_list (x_vd rfl)) (by omega) (fun j => [.d (ts row), .d (.list (S.map rowD)), .d (.str x), .u, .d (rowD (S.getD j []))]) (fun j d hd => ?_) (fun k hk => hk) fun j d hd G' B'' D' => ?_) ?_) (o_catL ?_)) (by rw [List.map_append])) fun σ H o => ⟨_, _, ⟨_, by rw [nxt]; rfl, rfl⟩, o⟩
    · obtain ⟨r, hr, rfl, er⟩ := rows_get hd
      rw [er]
      exact tg_name
    · obtain ⟨r, hr, rfl, er⟩ := rows_get hd
      have := hsub r (List.mem_of_getElem? hr)
      rw [er]
      exact x_is (x_op (x_vd rfl) (x_tup (ds := [.str x]) (a_cons (x_vd rfl) a_nil) (by simp)) (o_catT (by rw [List.length_map]; show _ + 1 ≤ _; omega))) (by show _ = Ent.d (.tuple ((r ++ [x]).map PyData.str)); rw [List.map_append]; rfl)
    · rw [Sl, range_map S [] fun r => rowD (r ++ [x]), List.map_map]; rfl
    · rw [List.length_map, List.length_map, List.length_map]; omega
  rintro δ1 μ1 ⟨e2, rfl, rfl⟩
  rw [List.length_map, List.take_length]
  have hlen : (subs row).length ≤ 64 := by
    rw [subs_len _ _ rfl]
    have : 2 ^ row.length ≤ 2 ^ 6 := Nat.pow_le_pow_right (by decide) lr
    have h6 : (2 : Nat) ^ 6 = 64 := rfl
    omega
  have hsub : ∀ r ∈ subs row, Good r := fun r hr x hx => gr x ((subs_sub _ _ rfl r hr).subset hx)
  have estr : stru row = onceA ((subs row).mergeSort leR) := rfl
  rw [estr] at fin
  have hml : ((subs row).mergeSort leR).length ≤ 64 := by rw [List.length_mergeSort]; exact hlen
  have hmg : ∀ r ∈ (subs row).mergeSort leR, Good r := fun r hr => hsub r ((List.mergeSort_perm _ _).mem_iff.mp hr)
  refine q_new (ds := []) a_nil (by simp) fun p hp => ?_
  show FD.Run _ _ D (p :: M) [.d (ts row), .d (.list ((subs row).map rowD)), e2, .m p, .u] [(p, .lst [])]
  refine q_for (i_list (x_cbP (a_cons (x_vd rfl) a_nil) (c_sortedRw (.d _)))) (fun i δ μ => ∃ e4, δ = [.d (ts row), .d (.list ((subs row).map rowD)), e2, .m p, e4] ∧ μ = [(p, .lst ((onceA (((subs row).mergeSort leR).take i)).map rowD))]) ⟨_, rfl, rfl⟩ ?_ ?_
  · generalize (subs row).mergeSort leR = L at hml hmg
    rintro B' hB i d δ1 μ1 hi ⟨e4, rfl, rfl⟩
    obtain ⟨r, hr, rfl, _⟩ := rows_get hi
    have hil := (List.getElem?_eq_some_iff.mp hr).1
    have gr' := hmg r (List.mem_of_getElem? hr)
    have nxt := onceA_succ hr
    have hol : (onceA (L.take i)).length ≤ 64 := by
      have := onceA_len (L.take i) []
      rw [List.length_take] at this
      have h2 : (onceA (L.take i)).length ≤ ([] : List (List Str)).length + min i L.length := this
      simp at h2
      omega
    have hog : ∀ x ∈ onceA (L.take i), Good x := fun x hx => by
      rcases onceA_mem _ _ x hx with z | z
      · cases z
      · exact hmg x (List.mem_of_mem_take z)
    generalize onceA (L.take i) = O at nxt hol hog ⊢
    refine ⟨[4], _, tg_name, ?_⟩
    show FD.Run _ _ _ _ [.d (ts row), .d (.list ((subs row).map rowD)), e2, .m p, .d (rowD r)] [(p, .lst (O.map rowD))]
    have Ol : (O.map rowD).length = O.length := List.length_map _
    refine r_if (b := decide (O = [] ∨ O.getLast? ≠ some r)) (t_is (t_or (b := decide (O = [])) (c := decide (O.getLast? ≠ some r)) (t_is (t_test (x_op (x_vm rfl) (x_lst (ds := []) a_nil (by simp)) (o_eqD (.m (j := 0) rfl) (.d _) (rows_sh hog) ((shp_nil 0).shaped (by decide))))) ?_) (fun hb => ?_) (fun hb => rfl)) ?_) (fun hb => ?_) fun hb => ?_
    · rw [eqv_empty, List.isEmpty_map]
      cases O <;> simp
    · have hO := of_decide_eq_false hb
      obtain ⟨Q, z, rfl⟩ : ∃ Q z, O = Q ++ [z] := snoc_ex hO
      have gz := hog z (by simp)
      have ez : (((Q ++ [z]).map rowD).length : Int) - 1 = ((Q.length : Nat) : Int) := by rw [Ol, List.length_append]; simp
      refine t_is (t_test (x_op (x_op (x_vm rfl) (x_is (e1 := .d (.int ((Q.length : Nat) : Int))) (x_op (x_cbP (a_cons (x_vm rfl) a_nil) (c_lenL (.m (j := 0) rfl))) x_int o_I0) (by rw [ez])) (o_ixL (.m (j := 0) rfl) (d := rowD z) (atI_nat ?_))) (x_vd rfl) (o_neD (.d _) (.d _) ((shp_ts 0 gz).shaped (by decide)) ((shp_ts 0 gr').shaped (by decide))))) ?_
      · rw [List.map_append, List.getElem?_append_right (by rw [List.length_map]; exact Nat.le_refl _), List.length_map, Nat.sub_self]; rfl
      · rw [eqv_rowD, List.getLast?_append]
        by_cases q : z = r
        · subst q; simp
        · rw [decide_eq_false q]; simp [q]
    · by_cases a : O = [] <;> by_cases b : O.getLast? = some r <;> simp [a, b]
    · rw [if_pos (of_decide_eq_true hb)] at nxt
      refine r_app (j := 0) (d := rowD r) (x_vm rfl) (x_vd rfl) rfl rfl (by rw [Ol]; omega) fun σ H o => ⟨_, _, ⟨_, rfl, ?_⟩, o⟩
      rw [nxt, List.map_append]; rfl
    · rw [if_neg (of_decide_eq_false hb)] at nxt
      exact r_next fun σ H o => ⟨_, _, ⟨_, rfl, by rw [nxt]⟩, o⟩
  · rintro δ1 μ1 ⟨e4, rfl, rfl⟩
    rw [List.length_map, List.take_length]
    exact run_settle (i := 3) hp (fun a ha => ha) rfl (r_retP (x_vd rfl) fin)
end
end K02
namespace FD
open PySem L2 Evl
theorem kcall_isi {X : Cx} {K : PySem.W.Frag} (h : X.K = K) : CallR X (.builtin "isinstance") (rIsi K) := h ▸ call_isi
end FD
namespace K02
open PySem L2 FD Evl
def qRi : Str := "_law_right" ++ ".<locals>." ++ "<lambda>"
/-- the rows told are the greatest ones within all of rs -/
structure Best (R rs : List (List Str)) : Prop where
  ord : R.Pairwise Kle
  nd : R.Nodup
  com : ∀ r ∈ R, ∀ o ∈ rs, r.Sublist o
  anti : ∀ r ∈ R, ∀ r' ∈ R, r.Sublist r' → r = r'
  cov : ∀ w : List Str, (∀ o ∈ rs, w.Sublist o) → ∃ r ∈ R, w.Sublist r
structure Rok (rs : List (List Str)) : Prop where
  good : ∀ r ∈ rs, Good r ∧ r.length ≤ 100
  len : rs.length ≤ 100
def Rri (Tb : Addr) (es : List Ent) (μ : Mem) (d : PyData) (μ' : Mem) : Prop := ∃ R rs : List (List Str), es = [.d (.tuple (R.map rowD)), .d (.list (rs.map rowD))] ∧ μ = [(Tb, .tb qRi)] ∧ μ' = μ ∧ Best R rs ∧ Rok R ∧ Rok rs ∧ (∃ r0, rs[0]? = some r0 ∧ r0.length ≤ 6) ∧ d = .bool true
section
variable {P : Program} {w : World} {K : PySem.W.Frag} {mg : Str → Option Value} {base : Heap}
abbrev nRi : List Str := ["_law_told", "_law_rows", "_law_row_here", "_law_at", "_law_by", "_law_one"]
theorem scRi : FnScope nRi ["_law_told", "_law_rows"] (defScope sRi) := ⟨rfl, rfl, rfl, by decide +kernel, rfl, by decide +kernel, by decide +kernel⟩
theorem ok_ri {f : Addr} {fd : FuncData} (T : Txt mg) (F : Fun K "_law_right" "_law_right" sRi f fd) {c Tb : Addr} (TB : LamX.TabB base mg c Tb) (hcd : fd.code = .ref c) {f1 f2 f3 : Addr} {fd1 fd2 fd3 : FuncData} (H1 : Has K mg "_law_lies_in" sLi ["_law_u", "_law_v"] f1 fd1) (H2 : Has K mg "_law_in_all" sIa ["_law_row_here", "_law_rows"] f2 fd2) (H3 : Has K mg "_law_all_struck" sSa ["_law_row_here"] f3 fd3) :
    FnOk P w K mg base CX0 3 f fd ["_law_told", "_law_rows"] (spE K 2 (Rri Tb)) := by
  have G1 : FnOk P w K mg base CX0 1 f1 fd1 ["_law_u", "_law_v"] (spR K 2 Rli) := ok_li T H1.F
  have G2 : FnOk P w K mg base CX0 2 f2 fd2 ["_law_row_here", "_law_rows"] (spR K 2 Ria) := ok_ia T H2.F H1
  have G3 : FnOk P w K mg base CX0 1 f3 fd3 ["_law_row_here"] (spR K 1 Rsa) := ok_sa T H3.F
  refine def_EC F scRi (by decide) rfl fun cdv A outer s H E hc hr => ?_
  have nd := scRi.nd
  have hr1 : Room 1 _ := hr.mono (by decide)
  have hr2 : Room 2 _ := hr.mono (by decide)
  refine ⟨_, (pss_cons (ps_if (PW.pt (pw_or (pt_not (pt_val (pe_callB call_isi (by rfl) T.isinstance (by decide +kernel) (pa_cons (pv 0) (pa_cons (pe_bltn (v := .ty "tuple") (u := .type "tuple") (by rfl) T.tuple (by decide +kernel) rfl) pa_nil))))) (pw_or1 (pt_not (pt_val (pe_callB (cr_all rfl) (by rfl) T.all (by decide +kernel) (pa_cons (pe_lc (own := [("_law_row_here", 2)]) (g := (gName 2)) (tt := tYes) rfl nd (pi_tup (pv 0)) (blkOk_by (N := nRi) (sc := defScope sRi) (by decide +kernel)) (fun _ _ _ _ _ => (pg_name (i := 2) nd rfl (Or.inl rfl))) (fun _ _ _ _ _ => pts_nil) (fun _ _ _ _ _ => (pe_callB (kcall_isi (K := K) rfl) (by rfl) T.isinstance (by decide +kernel) (pa_cons (pv 2) (pa_cons (pe_bltn (v := .ty "tuple") (u := .type "tuple") (by rfl) T.tuple (by decide +kernel) rfl) pa_nil))))) pa_nil))))))) (pss_one (ps_ret pe_bl)) pss_nil)
 (pss_cons (ps_if (pt_cmpR (op_neD hr.units) (pe_callTy call_list_of (by rfl) T.list (by decide +kernel) (pa_cons (pv 0) pa_nil)) (pe_sortLamT hr (by rfl) T.sorted T.len TB (hc.trans hcd) (pa_cons (pv 0) pa_nil) (by decide) (by rfl) (fun _ _ _ _ _ => rfl)) (nomark _)) (pss_one (ps_ret pe_bl)) pss_nil)
 (pss_cons (ps_for PassesOwn.never rfl (pi_enumT (by rfl) T.enumerate (pa_cons (pv 0) pa_nil)) (pg_tup rfl (pgs_cons (pg_name (i := 3) nd rfl (Or.inr rfl)) (pgs_cons (pg_name (i := 2) nd rfl (Or.inr rfl)) pgs_nil))) (pss_cons (ps_if (pt_not (pt_val (pe_call G2 hr2 rfl H2.m H2.F.kp H2.b .nil pass0 (pa_cons (pv 2) (pa_cons (pv 1) pa_nil))))) (pss_one (ps_ret pe_bl)) pss_nil)
 (pss_one (ps_if (pt_cmpR (op_neD hr.units) (pe_lc (own := [("_law_by", 4)]) (g := (gName 4)) rfl nd (pi_range1 (by rfl) T.range (pa_cons (pe_callB call_len_seq (by rfl) T.len PySem.boot_len (pa_cons (pv 0) pa_nil)) pa_nil)) (blkOk_by (N := nRi) (sc := defScope sRi) (by decide +kernel)) (fun _ _ _ _ _ => (pg_name (i := 4) nd rfl (Or.inl rfl))) (fun _ _ _ _ _ => (pts_one (PW.pt (pw_and (pt_cmpR (kop_neD (K := K) rfl hr.units) (pv 4) (pv 3) (nomark _)) (pw_and1 (pt_val (pe_call G1 hr1 rfl H1.m H1.F.kp H1.b .nil pass0 (pa_cons (pv 2) (pa_cons (pe_ix (kix_tup (K := K) rfl) (pv 0) (pv 4) (fun _ _ => rfl)) pa_nil))))))))) (fun _ _ _ _ _ => (pv 4))) (pe_lst pa_nil) (nomark _)) (pss_one (ps_ret pe_bl)) pss_nil))))
 (pss_cons (ps_for PassesOwn.never rfl (pi_list (pe_call G3 hr1 rfl H3.m H3.F.kp H3.b .nil pass0 (pa_cons (pe_ix ix_list (pv 1) pe_int (fun _ _ => rfl)) pa_nil))) (pg_name (i := 2) nd rfl (Or.inr rfl)) (pss_one (ps_if (PW.pt (pw_and (pt_val (pe_call G2 hr2 rfl H2.m H2.F.kp H2.b .nil pass0 (pa_cons (pv 2) (pa_cons (pv 1) pa_nil)))) (pw_and1 (pt_cmpR (op_eqD hr.units) (pe_lc (own := [("_law_one", 5)]) (g := (gName 5)) rfl nd (pi_tup (pv 0)) (blkOk_by (N := nRi) (sc := defScope sRi) (by decide +kernel)) (fun _ _ _ _ _ => (pg_name (i := 5) nd rfl (Or.inl rfl))) (fun _ _ _ _ _ => (pts_one (pt_val (pe_call G1 hr1 rfl H1.m H1.F.kp H1.b .nil pass0 (pa_cons (pv 2) (pa_cons (pv 5) pa_nil)))))) (fun _ _ _ _ _ => (pv 5))) (pe_lst pa_nil) (nomark _))))) (pss_one (ps_ret pe_bl)) pss_nil)))
 (pss_one (ps_ret pe_bl)))))), ?_⟩
  rintro M G B es μ d μ' ⟨R, rs, rfl, rfl, rfl, best, okR, okr, ⟨r0, h0, l0⟩, rfl⟩ D fin
  show FD.Run _ _ D M [.d (.tuple (R.map rowD)), .d (.list (rs.map rowD)), .u, .u, .u, .u] [(Tb, .tb qRi)]
  have Rl : (R.map rowD).length = R.length := List.length_map _
  have rl : (rs.map rowD).length = rs.length := List.length_map _
  have hR := okR.len
  have hr' := okr.len
  have gR : ∀ r ∈ R, Good r := fun r h => (okR.good r h).1
  have gr : ∀ r ∈ rs, Good r ∧ r.length ≤ 1000 := fun r h => ⟨(okr.good r h).1, by have := (okr.good r h).2; omega⟩
  have shi : ∀ i, SeqAt.shaped (.int i) = true := fun i => (shp_int 0 i).shaped (by decide)
  have hk : kOrd R = R := kle_one (kOrd_pw R) best.ord (kOrd_perm R)
  have hia : ∀ row : List Str, (rs.all fun o => decide (row.Sublist o)) = true ↔ ∀ o ∈ rs, row.Sublist o := fun row => by
    rw [List.all_eq_true]
    exact ⟨fun h o ho => of_decide_eq_true (h o ho), fun h o ho => decide_eq_true (h o ho)⟩
  refine q_when (b := false) (t_is (t_or (b := false) (c := false) (t_is (t_not (t_B (x_isi (b := true) (x_vd rfl) (by show kitB "tuple" "tuple" = some true; decide +kernel)))) rfl) (fun _ => t_is (t_not (t_B (x_is (e1 := .d (.bool true)) (x_cbP (a_cons (e := .d (.list ((R.map fun _ => true).map .bool))) (x_is (x_lcP (ts := [2]) (fun _ => .bool true) (i_tup (x_vd rfl)) (by omega) (fun i => [.d (.tuple (R.map rowD)), .d (.list (rs.map rowD)), .d (rowD (R.getD i [])), .u, .u, .u]) (fun i d hd => ?_) (fun k hk => hk) fun i d hd G' B' D' => ?_) ?_) a_nil) (c_all (.d _))) ?_))) rfl) (fun z => by cases z)) rfl) (fun z => by cases z) fun _ => ?_
  · obtain ⟨r, hr, rfl, er⟩ := rows_get hd
    rw [er]
    exact tg_name
  · exact x_isi (b := true) (x_vd rfl) (by show kitB "tuple" "tuple" = some true; decide +kernel)
  · rw [Rl, List.map_map]
    congr 2
    have := range_map R [] fun _ => PyData.bool true
    exact this
  · congr 2
    rw [List.all_map, List.all_eq_true]
    exact fun _ _ => rfl
  refine q_when (b := false) (t_is (t_test (x_op (x_cbP (a_cons (x_vd rfl) a_nil) c_listTd) (x_is (e1 := .d (.list (R.map rowD))) (x_sortLamT (x_vd rfl) (List.mem_singleton.mpr rfl)) (by rw [hk])) (o_neD (.d _) (.d _) (rows_sh gR) (rows_sh gR)))) (by rw [eqv_rowsL]; simp)) (fun z => by cases z) fun _ => ?_
  refine q_for (i_enumT (a_cons (x_vd rfl) a_nil)) (fun i δ μ => ∃ e2 e3, δ = [.d (.tuple (R.map rowD)), .d (.list (rs.map rowD)), e2, e3, .u, .u] ∧ μ = [(Tb, .tb qRi)]) ⟨_, _, rfl, rfl⟩ ?_ ?_
  · rintro B' hB i d δ1 μ1 hi ⟨e2, e3, rfl, rfl⟩
    have hil := (List.getElem?_eq_some_iff.mp hi).1
    rw [enumD_length, Rl] at hil
    have hri : R[i]? = some (R.getD i []) := by rw [List.getD_eq_getElem?_getD, List.getElem?_eq_getElem hil]; rfl
    rw [enumD_get (x := rowD (R.getD i [])) (by rw [List.getElem?_map, hri]; rfl)] at hi
    cases hi
    have hm := List.mem_of_getElem? hri
    have gi := okR.good _ hm
    generalize hrow : R.getD i [] = row at hri hm gi
    refine ⟨[3, 2], _, tg_tup2, ?_⟩
    show FD.Run _ _ _ _ [.d (.tuple (R.map rowD)), .d (.list (rs.map rowD)), .d (rowD row), .d (.int (i : Int)), .u, .u] [(Tb, .tb qRi)]
    refine q_when (b := false) (t_is (t_not (t_B (x_callR (ds := [ts row, .list (rs.map rowD)]) (d := .bool (rs.all fun o => decide (row.Sublist o))) (a_cons (x_vd rfl) (a_cons (x_vd rfl) a_nil)) ⟨row, rs, rfl, gi.1, by omega, gr, by omega, rfl⟩))) (by rw [(hia row).mpr (best.com row hm)]; rfl)) (fun z => by cases z) fun _ => ?_
    refine r_if (b := false) (t_is (t_test (x_op (x_is (e1 := .d (.list [])) (x_lc (fun _ => [(Tb, .tb qRi)]) (fun _ => false) (fun _ => .none) (i_rng1 (n := (R.length : Int)) (a_cons (x_is (x_cbP (a_cons (x_vd rfl) a_nil) c_lenT) (by rw [Rl])) a_nil) (by omega) (by omega)) (by rw [rngD_length]; omega) fun j d hj G' B'' D' => ?_) ?_) (x_lst (ds := []) a_nil (by simp)) (o_neD (.d _) (.d _) ((shp_nil 0).shaped (by decide)) ((shp_nil 0).shaped (by decide))))) (by rw [eqv_empty]; rfl)) (fun z => by cases z) fun _ => r_next fun σ H o => ⟨_, _, ⟨_, _, rfl, rfl⟩, o⟩
    · have hjl := (List.getElem?_eq_some_iff.mp hj).1
      rw [rngD_length, Int.toNat_natCast] at hjl
      rw [rngD_get (by rw [Int.toNat_natCast]; exact hjl), Int.zero_add] at hj
      cases hj
      have hrj : R[j]? = some (R.getD j []) := by rw [List.getD_eq_getElem?_getD, List.getElem?_eq_getElem hjl]; rfl
      have hmj := List.mem_of_getElem? hrj
      have gj := okR.good _ hmj
      refine ⟨[4], [.d (.tuple (R.map rowD)), .d (.list (rs.map rowD)), .d (rowD row), .d (.int (i : Int)), .d (.int (j : Int)), .u], _, tg_name, fun k hk => hk, ?_, fun z => (by cases z), fun _ => rfl⟩
      refine t_is (t_and (b := !decide (j = i)) (c := decide (row.Sublist (R.getD j []))) (t_is (t_test (x_op (x_vd rfl) (x_vd rfl) (o_neD (.d _) (.d _) (shi _) (shi _)))) ?_) (fun _ => t_B (x_callR (ds := [ts row, ts (R.getD j [])]) (a_cons (x_vd rfl) (a_cons (x_op (x_vd rfl) (x_vd rfl) (o_ixT (d := rowD (R.getD j [])) (atI_nat (by rw [List.getElem?_map, hrj]; rfl)))) a_nil)) ⟨row, R.getD j [], rfl, gi.1, gj.1, by omega, by omega, rfl⟩)) (fun _ => rfl)) ?_
      · rw [eqv_int]
        by_cases z : j = i
        · rw [z]; simp
        · rw [decide_eq_false z]
          have : ((j : Int) == (i : Int)) = false := beq_eq_false_iff_ne.mpr (by omega)
          rw [this]
      · by_cases z : j = i
        · rw [decide_eq_true z]; rfl
        · rw [decide_eq_false z]
          have : ¬ row.Sublist (R.getD j []) := fun h => by
            have e := best.anti row hm _ hmj h
            rw [← e] at hrj
            exact z (nd_ix best.nd hrj hri)
          rw [decide_eq_false this]; rfl
    · rw [rngD_length]
      unfold lcD
      simp
  rintro δ1 μ1 ⟨e2, e3, rfl, rfl⟩
  have hm0 := List.mem_of_getElem? h0
  have g0 := okr.good r0 hm0
  refine q_for (i_list (x_callR (ds := [ts r0]) (d := .list ((stru r0).map rowD)) (a_cons (x_op (x_vd rfl) x_int (o_ixL (.d _) (d := rowD r0) (at_nat (i := 0) (by decide) (by rw [List.getElem?_map]; show (rs[0]?).map rowD = _; rw [h0]; rfl)))) a_nil) ⟨r0, rfl, g0.1, l0, rfl⟩)) (fun i δ μ => ∃ e2, δ = [.d (.tuple (R.map rowD)), .d (.list (rs.map rowD)), e2, e3, .u, .u] ∧ μ = [(Tb, .tb qRi)]) ⟨_, rfl, rfl⟩ ?_ ?_
  · rintro B' hB i d δ1 μ1 hi ⟨e2, rfl, rfl⟩
    obtain ⟨row, hrow, rfl, _⟩ := rows_get hi
    have hs := stru_sub (List.mem_of_getElem? hrow)
    have gi : Good row := fun x hx => g0.1 x (hs.subset hx)
    have li : row.length ≤ 6 := Nat.le_trans hs.length_le l0
    refine ⟨[2], _, tg_name, ?_⟩
    show FD.Run _ _ _ _ [.d (.tuple (R.map rowD)), .d (.list (rs.map rowD)), .d (rowD row), e3, .u, .u] [(Tb, .tb qRi)]
    refine r_if (b := false) (t_is (t_and (b := rs.all fun o => decide (row.Sublist o)) (c := (R.filter fun o => decide (row.Sublist o)).isEmpty) (t_B (x_callR (ds := [ts row, .list (rs.map rowD)]) (d := .bool (rs.all fun o => decide (row.Sublist o))) (a_cons (x_vd rfl) (a_cons (x_vd rfl) a_nil)) ⟨row, rs, rfl, gi, by omega, gr, by omega, rfl⟩)) (fun _ => t_is (t_test (x_op (x_is (e1 := .d (.list ((R.filter fun o => decide (row.Sublist o)).map rowD))) (x_lc (fun _ => [(Tb, .tb qRi)]) (fun j => decide (row.Sublist (R.getD j []))) (fun j => rowD (R.getD j [])) (i_tup (x_vd rfl)) (by omega) fun j d hj G' B'' D' => ?_) ?_) (x_lst (ds := []) a_nil (by simp)) (o_eqD (.d _) (.d _) (rows_sh fun r hr => gR r (List.mem_filter.mp hr).1) ((shp_nil 0).shaped (by decide))))) (by rw [eqv_empty, List.isEmpty_map])) (fun _ => rfl)) ?_) (fun z => by cases z) fun _ => r_next fun σ H o => ⟨_, _, ⟨_, rfl, rfl⟩, o⟩
    · obtain ⟨o, ho, rfl, eo⟩ := rows_get hj
      have go := okR.good o (List.mem_of_getElem? ho)
      refine ⟨[5], [.d (.tuple (R.map rowD)), .d (.list (rs.map rowD)), .d (rowD row), e3, .u, .d (rowD o)], _, tg_name, fun k hk => hk, ?_, fun _ => ?_, fun _ => rfl⟩
      · rw [eo]
        exact t_B (x_callR (ds := [ts row, ts o]) (a_cons (x_vd rfl) (a_cons (x_vd rfl) a_nil)) ⟨row, o, rfl, gi, go.1, by omega, by omega, rfl⟩)
      · rw [eo]
        exact x_vd rfl
    · rw [Rl]
      have := lcD_filter R [] (fun o => decide (row.Sublist o)) rowD
      rw [this]
    · cases ha : (rs.all fun o => decide (row.Sublist o)) with
      | false => rfl
      | true =>
        obtain ⟨r, hr, hsr⟩ := best.cov row ((hia row).mp ha)
        have hf : r ∈ R.filter fun o => decide (row.Sublist o) := List.mem_filter.mpr ⟨hr, decide_eq_true hsr⟩
        cases hz : R.filter fun o => decide (row.Sublist o) with
        | nil => rw [hz] at hf; cases hf
        | cons _ _ => rfl
  · rintro δ1 μ1 ⟨e2, rfl, rfl⟩
    exact r_retE x_bl (fun z hz => hz) fin
end
end K02
/-! the plain law: what common_all tells, of rows of one deed, of exchanged neighbours -/
namespace K02
open PySem L2 FD Evl
theorem ordT_eq {rs rs' : List (List Str)} (h : ∀ x, x ∈ rs ↔ x ∈ rs') : ordT rs = ordT rs' :=
  kle_one (ordT_kle rs) (ordT_kle rs') ((List.perm_ext_iff_of_nodup (ordT_nodup rs) (ordT_nodup rs')).mpr fun x => by rw [ordT_mem, ordT_mem]; exact h x)
theorem comA_eq {rs rs' : List (List Str)} (h : ∀ x, x ∈ rs ↔ x ∈ rs') : comA rs = comA rs' := by unfold comA; rw [ordT_eq h]
theorem remA_eq' {rs rs' : List (List Str)} (h : ∀ x, x ∈ rs ↔ x ∈ rs') : remA rs = remA rs' := by unfold remA; rw [ordT_eq h]
theorem ca_eq {rs rs' : List (List Str)} (h : ∀ x, x ∈ rs ↔ x ∈ rs') (hl : rs'.length ≤ 40) (c : CAok rs) : CAok rs' := by
  refine ⟨⟨fun z => ?_, hl, fun r hr => c.good r ((h r).mpr hr)⟩, ?_⟩
  · obtain ⟨x, hx⟩ := List.exists_mem_of_ne_nil _ c.ne
    have := (h x).mp hx
    rw [z] at this; cases this
  · rw [← remA_eq' h, ← ordT_eq h]; exact c.few
theorem comA_best {rs : List (List Str)} (h : CAok rs) : Best (comA rs) rs := by
  have g := comA_ok h
  exact ⟨g.ord, g.nd, fun r hr => com_all.mp (g.com r hr), g.anti, fun w hw => g.cov w (com_all.mpr hw)⟩
theorem remA_mem {rs : List (List Str)} (h : rs ≠ []) : ∃ r ∈ rs, r.length = remA rs := by
  have h0 : 0 < (ordT rs).length := List.length_pos_iff.mpr fun z => by
    obtain ⟨x, hx⟩ := List.exists_mem_of_ne_nil _ h
    have := ordT_mem.mpr hx
    rw [z] at this; cases this
  exact ⟨(ordT rs).getD 0 [], ordT_mem.mp (List.mem_of_getElem? (getD_at h0)), rfl⟩
theorem remA_le {rs : List (List Str)} {r : List Str} (h : r ∈ rs) : remA rs ≤ r.length := by
  unfold remA
  have hk := ordT_kle rs
  have hm := ordT_mem.mpr h
  cases e : ordT rs with
  | nil => rw [e] at hm; cases hm
  | cons a l =>
    rw [e] at hm hk
    show a.length ≤ r.length
    rcases List.mem_cons.mp hm with z | z
    · rw [z]; exact Nat.le_refl _
    · rcases (List.pairwise_cons.mp hk).1 r z with q | q
      · omega
      · omega
/-- a row that lies within all the rows and is one of them is all that is told -/
theorem comA_one {rs : List (List Str)} {t : List Str} (c : CAok rs) (hm : t ∈ rs) (h : ∀ o ∈ rs, t.Sublist o) : comA rs = [t] := by
  have b := comA_best c
  obtain ⟨r, hr, s⟩ := b.cov t h
  have e : r = t := (b.com r hr t hm).eq_of_length_le s.length_le
  subst e
  have all : ∀ x ∈ comA rs, x = r := fun x hx => b.anti x hx r hr (b.com x hx r hm)
  have nd := b.nd
  match hz : comA rs, nd, hr, all with
  | [a], _, _, all => rw [all a List.mem_cons_self]
  | a :: a' :: l, nd, _, all =>
    have h1 := all a List.mem_cons_self
    have h2 := all a' (List.mem_cons_of_mem _ List.mem_cons_self)
    exact absurd (h1.trans h2.symm) (fun z => (List.nodup_cons.mp nd).1 (by rw [z]; exact List.mem_cons_self))
  | [], _, hr, _ => cases hr
/-- where all that is common lies within one or two common rows, no more are told -/
theorem cap_tops {ks : List (List Str)} {ps : List Nat} (h : ∀ ps' : List Nat, ∃ tops : List (List Str), tops.length ≤ 2 ∧ (∀ t ∈ tops, Com ks ps' t) ∧ ∀ w, Com ks ps' w → ∃ t ∈ tops, w.Sublist t) : Cap2 ks ps := fun ps' _ _ R g => by
  obtain ⟨tops, h2, h3, h4⟩ := h ps'
  refine Nat.le_trans (nodup_le g.nd fun r hr => ?_) h2
  obtain ⟨t, ht, s⟩ := h4 r (g.com r hr)
  obtain ⟨r', hr', s'⟩ := g.cov t (h3 t ht)
  have e := g.anti r hr r' hr' (s.trans s')
  subst e
  have : r = t := s.eq_of_length_le s'.length_le
  rw [this]; exact ht
/-! rows of one deed -/
theorem cap_rep {rs : List (List Str)} {x : Str} {n : Nat} {ps : List Nat} (hm : List.replicate n x ∈ rs) : Cap2 (ordT rs) ps := fun ps' _ _ R g => by
  obtain ⟨i, hi⟩ := List.getElem?_of_mem (ordT_mem.mpr hm)
  have il := (List.getElem?_eq_some_iff.mp hi).1
  have rep : ∀ r ∈ R, r = List.replicate r.length x := fun r hr => by
    have := g.com r hr i il
    have e2 : (ordT rs).getD i [] = List.replicate n x := by rw [List.getD_eq_getElem?_getD, hi]; rfl
    rw [e2] at this
    have h2 : r.Sublist (List.replicate n x) := this.trans (List.drop_sublist _ _)
    obtain ⟨m, _, e⟩ := List.sublist_replicate_iff.mp h2
    rw [e, List.length_replicate]
  have one : ∀ r ∈ R, ∀ r' ∈ R, r = r' := fun r hr r' hr' => by
    rcases Nat.le_total r.length r'.length with z | z
    · refine g.anti r hr r' hr' ?_
      rw [rep r hr, rep r' hr']
      exact List.sublist_replicate_iff.mpr ⟨_, z, rfl⟩
    · refine (g.anti r' hr' r hr ?_).symm
      rw [rep r hr, rep r' hr']
      exact List.sublist_replicate_iff.mpr ⟨_, z, rfl⟩
  match R, g.nd, one with
  | [], _, _ => exact Nat.zero_le _
  | [a], _, _ => show 1 ≤ 2; decide
  | a :: b :: l, nd, one =>
    have := one a List.mem_cons_self b (List.mem_cons_of_mem _ List.mem_cons_self)
    exact absurd this fun z => (List.nodup_cons.mp nd).1 (by rw [z]; exact List.mem_cons_self)
/-! two neighbours exchanged -/
theorem suf_filter {Z L1 L2 : List Str} (nd : Z.Nodup) (h1 : L1 <:+ Z) (h2 : L2 <:+ Z) : (L1.filter fun z => decide (z ∈ L2)).Sublist L2 := by
  rcases List.suffix_or_suffix_of_suffix h1 h2 with h | h
  · exact List.filter_sublist.trans h.sublist
  · obtain ⟨p, rfl⟩ := h
    have ndp : (p ++ L2).Nodup := nd.sublist h1.sublist
    rw [List.filter_append]
    have e1 : p.filter (fun z => decide (z ∈ L2)) = [] := List.filter_eq_nil_iff.mpr fun z hz q => (List.nodup_append.mp ndp).2.2 z hz z (of_decide_eq_true q) rfl
    rw [e1, List.nil_append]
    exact List.filter_sublist
theorem filter_suf {α : Type} (p : α → Bool) (l : List α) (n : Nat) : (l.drop n).filter p <:+ l.filter p := by
  have h : l.drop n <:+ l := List.drop_suffix _ _
  obtain ⟨a, ha⟩ := h
  exact ⟨a.filter p, by rw [← List.filter_append, ha]⟩
/-- u and v are alike but for the order of x and y -/
structure Exch (u v : List Str) (x y : Str) : Prop where
  ne : x ≠ y
  ndu : u.Nodup
  ndv : v.Nodup
  fx : u.filter (fun z => decide (z ≠ x)) = v.filter (fun z => decide (z ≠ x))
  fy : u.filter (fun z => decide (z ≠ y)) = v.filter (fun z => decide (z ≠ y))
  no : ∀ w : List Str, w.Sublist u → w.Sublist v → x ∈ w → y ∉ w
theorem exch_top {u v : List Str} {x y z : Str} (E : Exch u v x y) (hz : z = x ∨ z = y) (i j : Nat) :
    ((u.drop i).filter fun a => decide (a ≠ z) && decide (a ∈ v.drop j)).Sublist (u.drop i) ∧ ((u.drop i).filter fun a => decide (a ≠ z) && decide (a ∈ v.drop j)).Sublist (v.drop j) := by
  refine ⟨List.filter_sublist, ?_⟩
  have fz : u.filter (fun a => decide (a ≠ z)) = v.filter (fun a => decide (a ≠ z)) := by
    rcases hz with rfl | rfl
    · exact E.fx
    · exact E.fy
  have h1 := filter_suf (fun a => decide (a ≠ z)) u i
  have h2 := filter_suf (fun a => decide (a ≠ z)) v j
  rw [← fz] at h2
  have h3 := suf_filter (E.ndu.sublist List.filter_sublist) h1 h2
  have e : (u.drop i).filter (fun a => decide (a ≠ z) && decide (a ∈ v.drop j)) = ((u.drop i).filter fun a => decide (a ≠ z)).filter fun a => decide (a ∈ (v.drop j).filter fun a => decide (a ≠ z)) := by
    rw [List.filter_filter]
    refine List.filter_congr fun a ha => ?_
    by_cases q : a = z
    · subst q; simp
    · by_cases m : a ∈ v.drop j
      · simp [q, m]
      · simp [q, m]
  rw [e]
  exact h3.trans List.filter_sublist
theorem exch_cov {u v : List Str} {x y : Str} (E : Exch u v x y) (i j : Nat) {w : List Str} (h1 : w.Sublist (u.drop i)) (h2 : w.Sublist (v.drop j)) :
    w.Sublist ((u.drop i).filter fun a => decide (a ≠ x) && decide (a ∈ v.drop j)) ∨ w.Sublist ((u.drop i).filter fun a => decide (a ≠ y) && decide (a ∈ v.drop j)) := by
  have key : ∀ z, z ∉ w → w.Sublist ((u.drop i).filter fun a => decide (a ≠ z) && decide (a ∈ v.drop j)) := fun z hz => by
    have e : w.filter (fun a => decide (a ≠ z) && decide (a ∈ v.drop j)) = w := List.filter_eq_self.mpr fun a ha => by
      have q1 : decide (a ≠ z) = true := decide_eq_true fun q => hz (q ▸ ha)
      rw [q1, decide_eq_true (h2.subset ha)]; rfl
    rw [← e]
    exact h1.filter _
  by_cases hx : x ∈ w
  · exact .inr (key y (E.no w (h1.trans (List.drop_sublist _ _)) (h2.trans (List.drop_sublist _ _)) hx))
  · exact .inl (key x hx)
theorem exch_cap {u v : List Str} {x y : Str} (E : Exch u v x y) {ps : List Nat} : Cap2 (ordT [u, v]) ps := cap_tops fun ps' => by
  obtain ⟨iu, hiu⟩ := List.getElem?_of_mem (ordT_mem.mpr (show u ∈ [u, v] by simp))
  obtain ⟨iv, hiv⟩ := List.getElem?_of_mem (ordT_mem.mpr (show v ∈ [u, v] by simp))
  have eu : (ordT [u, v]).getD iu [] = u := by rw [List.getD_eq_getElem?_getD, hiu]; rfl
  have ev : (ordT [u, v]).getD iv [] = v := by rw [List.getD_eq_getElem?_getD, hiv]; rfl
  have lu := (List.getElem?_eq_some_iff.mp hiu).1
  have lv := (List.getElem?_eq_some_iff.mp hiv).1
  have nd := ordT_nodup [u, v]
  have com : ∀ w, Com (ordT [u, v]) ps' w ↔ w.Sublist (u.drop (ps'.getD iu 0)) ∧ w.Sublist (v.drop (ps'.getD iv 0)) := fun w => by
    constructor
    · intro c
      have a := c iu lu
      have b := c iv lv
      rw [eu] at a
      rw [ev] at b
      exact ⟨a, b⟩
    · rintro ⟨a, b⟩ k hk
      have hm : (ordT [u, v])[k]? = some ((ordT [u, v]).getD k []) := by rw [List.getD_eq_getElem?_getD, List.getElem?_eq_getElem hk]; rfl
      have := ordT_mem.mp (List.mem_of_getElem? hm)
      simp only [List.mem_cons, List.not_mem_nil, or_false] at this
      rcases this with e | e
      · rw [e] at hm ⊢
        have := nd_ix nd hm hiu
        rw [this]; exact a
      · rw [e] at hm ⊢
        have := nd_ix nd hm hiv
        rw [this]; exact b
  refine ⟨[(u.drop (ps'.getD iu 0)).filter fun a => decide (a ≠ x) && decide (a ∈ v.drop (ps'.getD iv 0)), (u.drop (ps'.getD iu 0)).filter fun a => decide (a ≠ y) && decide (a ∈ v.drop (ps'.getD iv 0))], Nat.le_refl 2, fun t ht => ?_, fun w hw => ?_⟩
  · simp only [List.mem_cons, List.not_mem_nil, or_false] at ht
    rcases ht with rfl | rfl
    · exact (com _).mpr (exch_top E (.inl rfl) _ _)
    · exact (com _).mpr (exch_top E (.inr rfl) _ _)
  · obtain ⟨a, b⟩ := (com w).mp hw
    rcases exch_cov E _ _ a b with h | h
    · exact ⟨_, by simp, h⟩
    · exact ⟨_, by simp, h⟩
/-- the two rows that are left when one of the two is struck -/
theorem exch_told {u v : List Str} {x y : Str} (E : Exch u v x y) (c : CAok [u, v]) {a b : List Str} (ha : a = u.filter fun z => decide (z ≠ x)) (hb : b = u.filter fun z => decide (z ≠ y)) (hab : ¬ a.Sublist b) (hba : ¬ b.Sublist a) : comA [u, v] = ordT [a, b] := by
  have B := comA_best c
  have ca : ∀ o ∈ [u, v], a.Sublist o := fun o ho => by
    simp only [List.mem_cons, List.not_mem_nil, or_false] at ho
    rcases ho with rfl | rfl
    · rw [ha]; exact List.filter_sublist
    · rw [ha, E.fx]; exact List.filter_sublist
  have cb : ∀ o ∈ [u, v], b.Sublist o := fun o ho => by
    simp only [List.mem_cons, List.not_mem_nil, or_false] at ho
    rcases ho with rfl | rfl
    · rw [hb]; exact List.filter_sublist
    · rw [hb, E.fy]; exact List.filter_sublist
  have cov : ∀ w : List Str, (∀ o ∈ [u, v], w.Sublist o) → w.Sublist a ∨ w.Sublist b := fun w hw => by
    have h1 := hw u (by simp)
    have h2 := hw v (by simp)
    have key : ∀ z, z ∉ w → w.Sublist (u.filter fun q => decide (q ≠ z)) := fun z hz => by
      have e : w.filter (fun q => decide (q ≠ z)) = w := List.filter_eq_self.mpr fun q hq => decide_eq_true fun e => hz (e ▸ hq)
      rw [← e]
      exact h1.filter _
    by_cases hx : x ∈ w
    · exact .inr (hb ▸ key y (E.no w h1 h2 hx))
    · exact .inl (ha ▸ key x hx)
  refine kle_one B.ord (ordT_kle _) ((List.perm_ext_iff_of_nodup B.nd (ordT_nodup _)).mpr fun r => ?_)
  rw [ordT_mem]
  simp only [List.mem_cons, List.not_mem_nil, or_false]
  have inA : ∀ t t' : List Str, (∀ o ∈ [u, v], t.Sublist o) → ¬ t.Sublist t' → (∀ w : List Str, (∀ o ∈ [u, v], w.Sublist o) → w.Sublist t ∨ w.Sublist t') → t ∈ comA [u, v] := fun t t' h1 h2 h3 => by
    obtain ⟨r, hr, s⟩ := B.cov t h1
    rcases h3 r (B.com r hr) with q | q
    · rw [s.eq_of_length_le q.length_le]; exact hr
    · exact absurd (s.trans q) h2
  have aIn := inA a b ca hab cov
  have bIn := inA b a cb hba fun w hw => (cov w hw).symm
  constructor
  · intro hr
    rcases cov r (B.com r hr) with q | q
    · exact .inl (B.anti r hr a aIn q)
    · exact .inr (B.anti r hr b bIn q)
  · rintro (rfl | rfl)
    · exact aIn
    · exact bIn
end K02
namespace FD
open PySem L2 Evl
theorem takes_no {X : L2.Cx} : Takes X (fun _ _ _ _ => False) := fun u s' ⟨_, _, _, _, _, _, _, _, _, _, _, _, _, _, _, _, w⟩ => w.elim
theorem passNo {X : L2.Cx} : Passes (L2.CX X.prog X.w) X (fun _ _ _ => False) := fun pins σ H s e s' I c => passAt (W := fun _ _ _ _ => False) takes_no σ pins H s e s' I c
end FD
namespace K02
open PySem L2 FD Evl
def xrU (f m : Nat) : List Str := (List.range m).map fun i => letS ((f + 5 * i) % 26)
theorem xrU_len (f m : Nat) : (xrU f m).length = m := by unfold xrU; rw [List.length_map, List.length_range]
theorem xrU_get {f m i : Nat} (h : i < m) : (xrU f m)[i]? = some (letS ((f + 5 * i) % 26)) := by
  unfold xrU
  rw [List.getElem?_map, List.getElem?_range h]; rfl
theorem letS_tok (n : Nat) : tok (letS n) := tok_iff.mpr fun c hc => by
  rw [letS_codes] at hc
  rw [List.mem_singleton.mp hc]
  exact let_small _ (letC_mem n)
theorem xrU_good (f m : Nat) : Good (xrU f m) := fun x hx => by
  obtain ⟨i, _, rfl⟩ := List.mem_map.mp hx
  exact letS_tok _
theorem nd_ixL {l : List Nat} (h : l.Nodup) {i j : Nat} {x : Nat} (hi : l[i]? = some x) (hj : l[j]? = some x) : i = j := by
  obtain ⟨li, ei⟩ := List.getElem?_eq_some_iff.mp hi
  obtain ⟨lj, ej⟩ := List.getElem?_eq_some_iff.mp hj
  refine Nat.le_antisymm (Nat.not_lt.mp fun q => ?_) (Nat.not_lt.mp fun q => ?_)
  · exact List.pairwise_iff_getElem.mp h j i lj li q (ej.trans ei.symm)
  · exact List.pairwise_iff_getElem.mp h i j li lj q (ei.trans ej.symm)
theorem letS_inj {m n : Nat} (h : letS m = letS n) : m % 26 = n % 26 := by
  have e : [letC m] = [letC n] := congrArg (fun x : Str => x.cps.toList) h
  have e : letC m = letC n := (List.cons.inj e).1
  have h1 := letC_get m
  have h2 := letC_get n
  rw [e] at h1
  exact nd_ixL let_nodup h1 h2
theorem xrU_nodup {f m : Nat} (h : m ≤ 26) : (xrU f m).Nodup := by
  refine List.pairwise_iff_getElem.mpr fun i j hil hjl hij he => ?_
  have li : i < m := by rw [xrU_len] at hil; exact hil
  have lj : j < m := by rw [xrU_len] at hjl; exact hjl
  have ei : (xrU f m)[i]? = some (xrU f m)[i] := List.getElem?_eq_getElem hil
  have ej : (xrU f m)[j]? = some (xrU f m)[j] := List.getElem?_eq_getElem hjl
  rw [xrU_get li] at ei
  rw [xrU_get lj] at ej
  rw [← Option.some.inj ei, ← Option.some.inj ej] at he
  have := letS_inj he
  omega

theorem cutK_to (k : List Str) (p : Nat) : cutK k none (some (p : Int)) = k.take p := by
  unfold cutK
  rw [HT.sIx_none, HT.sIx_nat, List.drop_zero, Nat.sub_zero]
  rcases Nat.le_total p k.length with z | z
  · rw [Nat.min_eq_left z]
  · rw [Nat.min_eq_right z, List.take_of_length_le (Nat.le_refl _), List.take_of_length_le z]
theorem exch_of {p t : List Str} {x y : Str} (nd : (p ++ x :: y :: t).Nodup) : Exch (p ++ x :: y :: t) (p ++ y :: x :: t) x y ∧ p ++ y :: t = (p ++ x :: y :: t).filter (fun z => decide (z ≠ x)) ∧ p ++ x :: t = (p ++ x :: y :: t).filter (fun z => decide (z ≠ y)) := by
  have pm : (p ++ y :: x :: t).Perm (p ++ x :: y :: t) := (List.Perm.swap x y t).append_left p
  obtain ⟨np, nxy, dis⟩ := List.nodup_append.mp nd
  obtain ⟨hx, ny⟩ := List.nodup_cons.mp nxy
  obtain ⟨hy, nt⟩ := List.nodup_cons.mp ny
  have ne : x ≠ y := fun z => hx (by rw [z]; simp)
  have xp : x ∉ p := fun z => dis x z x (by simp) rfl
  have yp : y ∉ p := fun z => dis y z y (by simp) rfl
  have xt : x ∉ t := fun z => hx (List.mem_cons_of_mem _ z)
  have fp : ∀ z, z ∉ p → p.filter (fun a => decide (a ≠ z)) = p := fun z hz => List.filter_eq_self.mpr fun a ha => decide_eq_true fun e => hz (e ▸ ha)
  have ft : ∀ z, z ∉ t → t.filter (fun a => decide (a ≠ z)) = t := fun z hz => List.filter_eq_self.mpr fun a ha => decide_eq_true fun e => hz (e ▸ ha)
  have e1 : (p ++ x :: y :: t).filter (fun z => decide (z ≠ x)) = p ++ y :: t := by
    rw [List.filter_append, fp x xp, List.filter_cons, List.filter_cons, ft x xt]
    simp [ne.symm]
  have e2 : (p ++ x :: y :: t).filter (fun z => decide (z ≠ y)) = p ++ x :: t := by
    rw [List.filter_append, fp y yp, List.filter_cons, List.filter_cons, ft y hy]
    simp [ne]
  have e3 : (p ++ y :: x :: t).filter (fun z => decide (z ≠ x)) = p ++ y :: t := by
    rw [List.filter_append, fp x xp, List.filter_cons, List.filter_cons, ft x xt]
    simp [ne.symm]
  have e4 : (p ++ y :: x :: t).filter (fun z => decide (z ≠ y)) = p ++ x :: t := by
    rw [List.filter_append, fp y yp, List.filter_cons, List.filter_cons, ft y hy]
    simp [ne]
  refine ⟨⟨ne, nd, pm.nodup_iff.mpr nd, e1.trans e3.symm, e2.trans e4.symm, fun w h1 h2 hx' hy' => ?_⟩, e1.symm, e2.symm⟩
  have wn : w.Nodup := nd.sublist h1
  have nu := nd
  have nv := pm.nodup_iff.mpr nd
  rcases two_or ne hx' hy' with q | q
  · have : [y, x].Sublist (p ++ y :: x :: t) := ((List.Sublist.refl [y, x]).trans (by exact (List.nil_sublist t).cons_cons x |>.cons_cons y)).trans (List.sublist_append_right _ _)
    exact two_no nv (q.trans h2) this
  · have : [x, y].Sublist (p ++ x :: y :: t) := ((List.nil_sublist t).cons_cons y |>.cons_cons x).trans (List.sublist_append_right _ _)
    exact two_no nu (q.trans h1) this
theorem ord_two {a b : List Str} (ne : a ≠ b) (hl : a.length = b.length) : ordT [a, b] = [a, b].mergeSort leR := by
  have pw : ([a, b].mergeSort leR).Pairwise Kle := by
    have h := List.pairwise_mergeSort (le := leR) (fun a b c => leR_tot.trans a b c) (fun a b => by rw [Bool.or_eq_true]; exact leR_tot.total a b) [a, b]
    refine List.Pairwise.imp_of_mem (fun {x y} hx hy q => .inr ⟨?_, q⟩) h
    have hx := (List.mergeSort_perm _ _).mem_iff.mp hx
    have hy := (List.mergeSort_perm _ _).mem_iff.mp hy
    simp only [List.mem_cons, List.not_mem_nil, or_false] at hx hy
    rcases hx with rfl | rfl <;> rcases hy with rfl | rfl <;> first | rfl | exact hl | exact hl.symm
  have nd : [a, b].Nodup := by simp [ne]
  refine kle_one (ordT_kle _) pw ((List.perm_ext_iff_of_nodup (ordT_nodup _) ((List.mergeSort_perm _ _).nodup_iff.mpr nd)).mpr fun r => ?_)
  rw [ordT_mem, (List.mergeSort_perm _ _).mem_iff]
theorem mem3 {α : Type} {u v z : α} : z ∈ [u, v] ↔ z ∈ [v, u, v] := by
  simp only [List.mem_cons, List.not_mem_nil, or_false]
  exact ⟨fun h => h.elim (fun e => .inr (.inl e)) (fun e => .inl e), fun h => h.elim (fun e => .inr e) (fun h => h.elim .inl .inr)⟩
def Rxr (es : List Ent) (μ : Mem) (d : PyData) (μ' : Mem) : Prop := ∃ (b : Addr) (bx : Box), es = [.m b] ∧ μ = [(b, .lst bx.ds)] ∧ d = .bool true ∧ μ' = [(b, .lst (tkB (tkB (tkB bx 3) 26) (7 + tkV bx 3 - 1)).ds)]
section
variable {P : Program} {w : World} {K : PySem.W.Frag} {mg : Str → Option Value} {base : Heap} {Cx fI : Addr}
abbrev nXr : List Str := ["_law_box_here", "_law_u", "_law_at", "_law_v", "_law_due", "_law_many", "_law_first", "_law_place"]
theorem scXr : FnScope nXr ["_law_box_here"] (defScope sXr) := ⟨rfl, rfl, rfl, by decide +kernel, rfl, by decide +kernel, by decide +kernel⟩
theorem ok_xr {f : Addr} {fd : FuncData} (T : Txt mg) (TE : PySem.ErrRef.ErrTxt K mg P Cx fI) (F : Fun K "_law_exchanged_right" "_law_exchanged_right" sXr f fd) {f1 f2 f3 : Addr} {fd1 fd2 fd3 : FuncData} (H1 : Has K mg "_law_take" sTk ["_law_box_here", "_law_many"] f1 fd1) (H2 : Has K mg "common" sCo ["u", "v"] f2 fd2) (H3 : Has K mg "common_all" sCa ["rows"] f3 fd3)
    (G2 : FnOk P w K mg base (L2.CX P w) 18 f2 fd2 ["u", "v"] (spEX K 2 Rco Cx "word" Rox)) (G3 : FnOk P w K mg base (L2.CX P w) 17 f3 fd3 ["rows"] (spEX K 1 Rca Cx "word" Rcx)) : FnOk P w K mg base CX0 19 f fd ["_law_box_here"] (spE K 1 Rxr) := by
  have G1 : FnOk P w K mg base CX0 1 f1 fd1 ["_law_box_here", "_law_many"] (spW K 2 Rtk) := ok_tk T H1.F
  refine def_E F scXr (by decide) rfl fun cdv A outer s H E hr => ?_
  have nd := scXr.nd
  have hr1 : Room 1 _ := hr.mono (by decide)
  have hr17 : Room 17 _ := hr.mono (by decide)
  refine ⟨_, (pss_cons (ps_asg (pe_tup (pa_cons (pe_op op_add pe_int (pe_call G1 hr1 rfl H1.m H1.F.kp H1.b .nil pass0 (pa_cons (pv 0) (pa_cons pe_int pa_nil)))) (pa_cons (pe_call G1 hr1 rfl H1.m H1.F.kp H1.b .nil pass0 (pa_cons (pv 0) (pa_cons pe_int pa_nil))) pa_nil))) (pg_tup rfl (pgs_cons (pg_name (i := 5) nd rfl (Or.inl rfl)) (pgs_cons (pg_name (i := 6) nd rfl (Or.inr rfl)) pgs_nil))))
 (pss_cons (ps_set (i := 1) nd rfl (Or.inl rfl) (pe_callTy cr_tupF (by rfl) T.tuple (by decide +kernel) (pa_cons (pe_lc (own := [("_law_place", 7)]) (g := (gName 7)) (tt := tYes) rfl nd (pi_range1 (by rfl) T.range (pa_cons (pv 5) pa_nil)) (blkOk_by (N := nXr) (sc := defScope sXr) (by decide +kernel)) (fun _ _ _ _ _ => (pg_name (i := 7) nd rfl (Or.inl rfl))) (fun _ _ _ _ _ => pts_nil) (fun _ _ _ _ _ => (pe_ix ix_str pe_str (pe_op op_mod (pe_callTy call_int1 (by rfl) T.int (by decide +kernel) (pa_cons (pe_op op_add (pv 6) (pe_op op_mul pe_int (pv 7))) pa_nil)) pe_int) (fun _ _ => rfl)))) pa_nil)))
 (pss_cons (ps_set (i := 2) nd rfl (Or.inl rfl) (pe_call G1 hr1 rfl H1.m H1.F.kp H1.b .nil pass0 (pa_cons (pv 0) (pa_cons (pe_op op_sub (pv 5) pe_int) pa_nil))))
 (pss_cons (ps_set (i := 3) nd rfl (Or.inl rfl) (pe_op op_catF (pe_op op_catF (pe_slice sl_F (pv 1) po_none (po_some (pv 2))) (pe_tupF (pa_cons (pe_ix ix_tup (pv 1) (pe_op op_add (pv 2) pe_int) (fun _ _ => rfl)) (pa_cons (pe_ix ix_tup (pv 1) (pv 2) (fun _ _ => rfl)) pa_nil)))) (pe_slice sl_F (pv 1) (po_some (pe_op op_add (pv 2) pe_int)) po_none)))
 (pss_cons (ps_set (i := 4) nd rfl (Or.inl rfl) (pe_callTy call_tuple_of (by rfl) T.tuple (by decide +kernel) (pa_cons (pe_callB (cr_sortedRw hr.units) (by rfl) T.sorted (by decide +kernel) (pa_cons (pe_lst (pa_cons (pe_op op_catF (pe_slice sl_F (pv 1) po_none (po_some (pv 2))) (pe_slice sl_F (pv 1) (po_some (pe_op op_add (pv 2) pe_int)) po_none)) (pa_cons (pe_op op_catF (pe_slice sl_F (pv 1) po_none (po_some (pe_op op_add (pv 2) pe_int))) (pe_slice sl_F (pv 1) (po_some (pe_op op_add (pv 2) pe_int)) po_none)) pa_nil))) pa_nil)) pa_nil)))
 (pss_one (ps_ret (pe_and (pe_cmpR (op_eqD hr.units) (pe_call G2 hr rfl H2.m H2.F.kp H2.b .nil passNo (pa_cons (pv 1) (pa_cons (pv 3) pa_nil))) (pv 4) (nomark _)) (pe_one (pe_cmpR (op_eqD hr.units) (pe_call G3 hr17 rfl H3.m H3.F.kp H3.b .nil passNo (pa_cons (pe_lst (pa_cons (pv 3) (pa_cons (pv 1) (pa_cons (pv 3) pa_nil)))) pa_nil)) (pv 4) (nomark _))))))))))), ?_⟩
  rintro M G B es μ d μ' ⟨b, bx, rfl, rfl, rfl, rfl⟩ D fin
  show FD.Run _ _ D M [.m b, .u, .u, .u, .u, .u, .u, .u] [(b, .lst bx.ds)]
  have hv13 := tkV_lt (b := bx) (n := 3) (by decide)
  have hv26 := tkV_lt (b := tkB bx 3) (n := 26) (by decide)
  obtain ⟨m, hm⟩ : ∃ m : Nat, 7 + tkV bx 3 = (m : Int) := ⟨(7 + tkV bx 3).toNat, by omega⟩
  obtain ⟨fr, hf⟩ : ∃ f : Nat, tkV (tkB bx 3) 26 = (f : Int) := ⟨(tkV (tkB bx 3) 26).toNat, by omega⟩
  refine q_asgG (x_tup (ds := [.int (7 + tkV bx 3), .int (tkV (tkB bx 3) 26)]) (a_cons (x_op x_int (x_takeJ 0 (x_vm rfl) x_int rfl (by decide) (by decide)) o_I0) (a_cons (x_takeJ 0 (b := tkB bx 3) (x_vm rfl) x_int rfl (by decide) (by decide)) a_nil)) (by simp)) tg_tup2 ?_
  show FD.Run _ _ D M [.m b, .u, .u, .u, .u, .d (.int (7 + tkV bx 3)), .d (.int (tkV (tkB bx 3) 26)), .u] [(b, .lst (tkB (tkB bx 3) 26).ds)]
  rw [hm] at fin ⊢
  rw [hf]
  have hm8 : 7 ≤ m ∧ m ≤ 9 := by omega
  have hf26 : fr < 26 := by omega
  clear hf hm hv13 hv26
  generalize tkB (tkB bx 3) 26 = bx2 at fin ⊢
  have n1 : ∀ x : Nat, ((x : Int) + 1) = ((x + 1 : Nat) : Int) := fun x => by omega
  have n2 : ∀ x : Nat, ((x : Int) + 2) = ((x + 2 : Nat) : Int) := fun x => by omega
  refine q_asg (e := .p (xrU fr m)) (x_cb (a_cons (e := .d (.list ((xrU fr m).map .str))) (x_is (x_lcP (ts := [7]) (fun i => .str (letS ((fr + 5 * i) % 26))) (i_rng1 (n := (m : Int)) (a_cons (x_vd rfl) a_nil) (by omega) (by omega)) (by rw [rngD_length]; omega) (fun i => [.m b, .u, .u, .u, .u, .d (.int (m : Int)), .d (.int (fr : Int)), .d (.int (i : Int))]) (fun i d hd => ?_) (fun k hk => hk) (fun i d hd G' B' D' => ?_)) ?_) a_nil) (c_tupP (.d _))) ?_
  · have hl := (List.getElem?_eq_some_iff.mp hd).1
    rw [rngD_length] at hl
    rw [rngD_get hl, Int.zero_add] at hd
    cases hd
    exact tg_name
  · refine x_is (x_let x_str (x_op (x_cbP (a_cons (x_op (x_vd rfl) (x_op x_int (x_vd rfl) (o_I (.inl ⟨by decide, by decide⟩))) o_I0) a_nil) c_intI) x_int (o_I (by decide))) (by omega) (by omega)) ?_
    rw [show ((fr : Int) + 5 * (i : Int)) % 26 = (((fr + 5 * i) % 26 : Nat) : Int) by omega, Int.toNat_natCast]
  · rw [rngD_length]
    unfold xrU
    rw [List.map_map]; rfl
  show FD.Run _ _ D M [.m b, .p (xrU fr m), .u, .u, .u, .d (.int (m : Int)), .d (.int (fr : Int)), .u] [(b, .lst bx2.ds)]
  have hva := tkV_lt (b := bx2) (n := (m : Int) - 1) (by omega)
  obtain ⟨a, ha⟩ : ∃ a : Nat, tkV bx2 ((m : Int) - 1) = (a : Int) := ⟨(tkV bx2 ((m : Int) - 1)).toNat, by omega⟩
  have la : a + 1 < m := by omega
  refine q_asg (e := .d (.int (a : Int))) (x_is (x_takeJ 0 (x_vm rfl) (x_op (x_vd rfl) x_int o_I0) rfl (by omega) (by omega)) (by rw [ha])) ?_
  have u1 := xrU_get (f := fr) (m := m) (i := a) (by omega)
  have u2 := xrU_get (f := fr) (m := m) (i := a + 1) (by omega)
  have hnd := xrU_nodup (f := fr) (m := m) (by omega)
  have hg := xrU_good fr m
  have hln := xrU_len fr m
  generalize xrU fr m = u at *
  generalize letS ((fr + 5 * a) % 26) = x at u1
  generalize letS ((fr + 5 * (a + 1)) % 26) = y at u2
  show FD.Run _ _ D M [.m b, .p u, .d (.int (a : Int)), .u, .u, .d (.int (m : Int)), .d (.int (fr : Int)), .u] [(b, .lst (tkB bx2 ((m : Int) - 1)).ds)]
  have eu : u = u.take a ++ x :: y :: u.drop (a + 2) := by
    have h1 := (List.getElem?_eq_some_iff.mp u1)
    have h2 := (List.getElem?_eq_some_iff.mp u2)
    have d1 : u.drop a = x :: u.drop (a + 1) := by rw [← h1.2]; exact List.drop_eq_getElem_cons h1.1
    have d2 : u.drop (a + 1) = y :: u.drop (a + 2) := by rw [← h2.2]; exact List.drop_eq_getElem_cons h2.1
    rw [← d2, ← d1, List.take_append_drop]
  have t1 : u.take (a + 1) = u.take a ++ [x] := take_succ' u1
  have d2 : u.drop (a + 1) = y :: u.drop (a + 2) := by
    have h2 := (List.getElem?_eq_some_iff.mp u2)
    rw [← h2.2]; exact List.drop_eq_getElem_cons h2.1
  have lp : (u.take a).length ≤ 9 := by rw [List.length_take]; omega
  have lt : (u.drop (a + 2)).length ≤ 9 := by rw [List.length_drop]; omega
  have cto : ∀ p : Nat, cutK u none (some (p : Int)) = u.take p := fun p => cutK_to u p
  have cfr : ∀ p : Nat, cutK u (some (p : Int)) none = u.drop p := fun p => cutK_from u p
  refine q_asg (e := .p (u.take a ++ y :: x :: u.drop (a + 2))) (x_is (x_op (x_op (x_is (e1 := .p (u.take a)) (x_slP (x_vp rfl) p_none (p_some (x_vd rfl))) (by rw [cto])) (x_tupF (k := [y, x]) (a_cons (x_op (x_vpt rfl) (x_op (x_vd rfl) x_int o_I0) (o_ixT (by rw [n1]; exact atI_nat (ts_get u2)))) (a_cons (x_op (x_vpt rfl) (x_vd rfl) (o_ixT (atI_nat (ts_get u1)))) a_nil)) (by simp)) (o_catP (by show _ + 2 ≤ _; omega))) (x_is (e1 := .p (u.drop (a + 2))) (x_slP (x_vp rfl) (p_some (x_op (x_vd rfl) x_int o_I0)) p_none) (by rw [n2, cfr])) (o_catP (by rw [List.length_append]; show _ + 2 + _ ≤ _; omega))) (by rw [List.append_assoc]; rfl)) ?_
  obtain ⟨E, ea, eb⟩ := exch_of (p := u.take a) (t := u.drop (a + 2)) (x := x) (y := y) (by rw [← eu]; exact hnd)
  have hra : ∀ r ∈ [u, u.take a ++ y :: x :: u.drop (a + 2)], Good r ∧ r.length ≤ 100 := fun r hr => by
    simp only [List.mem_cons, List.not_mem_nil, or_false] at hr
    rcases hr with rfl | rfl
    · exact ⟨hg, by omega⟩
    · refine ⟨fun z hz => hg z ?_, by rw [List.length_append]; show _ + (_ + 1 + 1) ≤ 100; omega⟩
      rw [eu]
      simp only [List.mem_append, List.mem_cons] at hz ⊢
      rcases hz with h | h | h | h
      · exact .inl h
      · exact .inr (.inr (.inl h))
      · exact .inr (.inl h)
      · exact .inr (.inr (.inr h))
  have hnA : ¬ (u.take a ++ y :: u.drop (a + 2)).Sublist (u.take a ++ x :: u.drop (a + 2)) := fun z => by
    have e := z.eq_of_length (by rw [List.length_append, List.length_append]; rfl)
    have := List.cons.inj (List.append_cancel_left e)
    exact E.ne this.1.symm
  have hnB : ¬ (u.take a ++ x :: u.drop (a + 2)).Sublist (u.take a ++ y :: u.drop (a + 2)) := fun z => by
    have e := z.eq_of_length (by rw [List.length_append, List.length_append]; rfl)
    have := List.cons.inj (List.append_cancel_left e)
    exact E.ne this.1
  rw [← eu] at E ea eb
  generalize hv : u.take a ++ y :: x :: u.drop (a + 2) = v at E hra
  have rem9 : remA [u, v] ≤ 9 := by
    have := remA_le (rs := [u, v]) (r := u) (by simp)
    omega
  have ca : CAok [u, v] := ⟨⟨by simp, by show 2 ≤ 40; decide, hra⟩, .inr ⟨by omega, exch_cap E⟩⟩
  have ca2 : CAok [v, u, v] := ca_eq (fun z => mem3) (by show 3 ≤ 40; decide) ca
  have told := exch_told E ca ea eb hnA hnB
  have told2 : comA [v, u, v] = comA [u, v] := comA_eq fun z => mem3.symm
  have o2 := ord_two (a := u.take a ++ y :: u.drop (a + 2)) (b := u.take a ++ x :: u.drop (a + 2)) (fun z => hnA (by rw [z]; exact List.Sublist.refl _)) (by rw [List.length_append, List.length_append]; rfl)
  rw [o2] at told
  show FD.Run _ _ D M [.m b, .p u, .d (.int (a : Int)), .p v, .u, .d (.int (m : Int)), .d (.int (fr : Int)), .u] [(b, .lst (tkB bx2 ((m : Int) - 1)).ds)]
  refine q_asg (e := .d (.tuple (([u.take a ++ y :: u.drop (a + 2), u.take a ++ x :: u.drop (a + 2)].mergeSort leR).map rowD))) (x_cbP (a_cons (x_cbP (a_cons (x_lst (ds := [u.take a ++ y :: u.drop (a + 2), u.take a ++ x :: u.drop (a + 2)].map rowD) (a_cons (x_wp (x_is (e1 := .p (u.take a ++ y :: u.drop (a + 2))) (x_op (x_is (e1 := .p (u.take a)) (x_slP (x_vp rfl) p_none (p_some (x_vd rfl))) (by rw [cto])) (x_is (e1 := .p (y :: u.drop (a + 2))) (x_slP (x_vp rfl) (p_some (x_op (x_vd rfl) x_int o_I0)) p_none) (by rw [n1, cfr, d2])) (o_catP (by rw [List.length_cons]; omega))) rfl)) (a_cons (x_wp (x_is (e1 := .p (u.take a ++ x :: u.drop (a + 2))) (x_op (x_is (e1 := .p (u.take a ++ [x])) (x_slP (x_vp rfl) p_none (p_some (x_op (x_vd rfl) x_int o_I0))) (by rw [n1, cto, t1])) (x_is (e1 := .p (u.drop (a + 2))) (x_slP (x_vp rfl) (p_some (x_op (x_vd rfl) x_int o_I0)) p_none) (by rw [n2, cfr])) (o_catP (by rw [List.length_append]; show _ + 1 + _ ≤ _; omega))) (by rw [List.append_assoc]; rfl))) a_nil)) (by simp)) a_nil) (c_sortedRw (.d _))) a_nil) (c_tupleL (.d _))) ?_
  rw [← told]
  have gc : ∀ r ∈ comA [u, v], Good r := fun r hr z hz => hg z (((comA_best ca).com r hr u (by simp)).subset hz)
  show FD.Run _ _ D M [.m b, .p u, .d (.int (a : Int)), .p v, .d (.tuple ((comA [u, v]).map rowD)), .d (.int (m : Int)), .d (.int (fr : Int)), .u] [(b, .lst (tkB bx2 ((m : Int) - 1)).ds)]
  refine r_retE (x_is (x_andV (b := true) (c := true) (x_is (x_op (x_callEX0 (d := .tuple ((comA [u, v]).map rowD)) (a_cons (x_vp rfl) (a_cons (x_vp rfl) a_nil)) ⟨u, v, rfl, rfl, rfl, ca, rfl⟩) (x_vd rfl) (o_eqD (.d _) (.d _) (rowt_sh gc) (rowt_sh gc))) (by rw [eqv_rowsT]; simp)) (fun _ => x_is (x_op (x_callEX0 (d := .tuple ((comA [u, v]).map rowD)) (a_cons (x_lstR (ks := [v, u, v]) (a_cons (x_vp rfl) (a_cons (x_vp rfl) (a_cons (x_vp rfl) a_nil))) (by simp)) a_nil) ⟨_, [v, u, v], rfl, .inr rfl, rfl, rfl, ca2, by rw [told2]⟩) (x_vd rfl) (o_eqD (.d _) (.d _) (rowt_sh gc) (rowt_sh gc))) (by rw [eqv_rowsT]; simp)) (fun z => by cases z)) rfl) (fun z hz => hz) fin
end
end K02
namespace FD
open PySem L2 Evl
/-- what is made of a lambda's reading: ("told", d), or ("refused", word, True) -/
def TTsaid (K : PySem.W.Frag) (Cx : Addr) : (XK → Hp → VK → Prop) → Hp → VK → Prop := fun tl H Q => ∃ M : List Addr, ∀ (E : XK) (Q' : VK),
  (∀ v d H', (∀ a ∈ M, H' a ≠ none) → Dp K (hide M H') v d → (∀ u H'', Ex H' H'' → Dp K (hide M H'') u (.tuple [.str "told", d]) → Q u H'') → Q' v H') →
  (∀ (dd : Addr) (x : Str) H', (∀ a ∈ M, H' a ≠ none) → dd ∉ M → H' dd = some (.xd [("word", .str x)]) → (∀ u H'', Ex H' H'' → Dp K (hide M H'') u (.tuple [.str "refused", .str x, .bool true]) → Q u H'') → E (.ref Cx) (some dd) H') → tl E H Q'
section
variable {C : Cfg} {M : List Addr} {δ : List Ent} {μ μ1 : Mem} {Tb Cx : Addr} {q : Str} {te : XK → TE} {d : PyData} {tr : TA} {es : List Ent} {n : Nat}
theorem x_saidT (hP : (Tb, .tb q) ∈ μ) (h : ∀ E, EvX C (te E) M δ μ μ (.d d)) : EvX C (tLamQ Tb q (TTsaid C.K Cx) te) M δ μ μ (.d (.tuple [.str "told", d])) := fun σ H o Q k =>
  ⟨o.tabQ hP, fun H1 c' out _ => ⟨M, fun E Q' told _ => by
    obtain ⟨o1, x1⟩ := o.lam hP out
    exact h E σ H1 o1 Q' fun v H2 o2 x2 r2 => told v d H2 o2.alloc r2 fun u H3 e3 du => k u H3 (o2.grow e3) ((x1.trans x2).trans (hide_ex e3)) du⟩⟩
/-- a call that ends with an error -/
def RaX (C : Cfg) (M : List Addr) (δ : List Ent) (μ : Mem) (Cx : Addr) (x : Str) (te : XK → TE) : Prop := ∀ (E : XK) (σ : L2.St) (H : Hp) (Q : VK), Ok C M δ μ σ H → (∀ dd H', Ok C M δ μ σ H' → Ex (hide M H) (hide M H') → dd ∉ M → H' dd = some (.xd [("word", .str x)]) → E (.ref Cx) (some dd) H') → te E σ H Q
theorem x_saidX {x : Str} (hP : (Tb, .tb q) ∈ μ) (h : RaX C M δ μ Cx x te) : EvX C (tLamQ Tb q (TTsaid C.K Cx) te) M δ μ μ (.d (.tuple [.str "refused", .str x, .bool true])) := fun σ H o Q k =>
  ⟨o.tabQ hP, fun H1 c' out _ => ⟨M, fun E Q' _ ref => by
    obtain ⟨o1, x1⟩ := o.lam hP out
    exact h E σ H1 Q' o1 fun dd H2 o2 x2 nM hdd => ref dd x H2 o2.alloc nM hdd fun u H3 e3 du => k u H3 (o2.grow e3) ((x1.trans x2).trans (hide_ex e3)) du⟩⟩
theorem ra_call {R : List Ent → Mem → PyData → Mem → Prop} {Rx : List Ent → Mem → V → Prop} {x : Str} (h : EvA C tr M δ μ μ es) (hR : Rx es [] (.str x)) (hn : es.length = n := by rfl) : RaX C M δ μ Cx x (fun E => tCall (spEX C.K n R Cx "word" Rx) [] E tr) := fun E σ H Q o k =>
  h σ H o _ fun vs H1 o1 x1 r1 => by
    rw [List.append_nil]
    refine ⟨by rw [← paired_len r1]; exact hn, M, es, [], o1.alloc, r1, (fun p hp => absurd hp List.not_mem_nil), .nil, .inr ⟨.str x, hR, fun dd H2 e2 m2 nM q => ?_⟩⟩
    have e3 : Ex H1 H2 := fun b u e => e2 b u (by show hide [] H1 b = some u; rw [hide_out List.not_mem_nil]; exact e)
    exact k dd H2 (o1.grow e3) (x1.trans (hide_ex e3)) nM q
end
end FD
namespace K02
open PySem L2 FD Evl
abbrev nSd : List Str := ["_law_work", "_law_told", "error"]
theorem scSd : FnScope nSd ["_law_work"] (defScope sSd) := ⟨rfl, rfl, rfl, by decide +kernel, rfl, by decide +kernel, by decide +kernel⟩
theorem sd_gives {X : L2.Cx} {Cx Sx fI g : Addr} {cdg : Value} {q : Str} (hi : X.mg "isinstance" = none) (hv : X.mg "ValueError" = none) (TE : PySem.ErrRef.ErrTxt X.K X.mg X.prog Cx fI) (XC : ExcC X.K Cx) (hS : X.mg "StillError" = some (.ref Sx)) (kS : PySem.W.kitOne X.K (.ref Cx) (.ref Sx) = some true) (kV : PySem.W.kitOne X.K (.ref Cx) (.type "ValueError") = some true) :
    GivesS X nSd "_law_said" (defScope sSd) g cdg (defBody sSd) "_law_work" q (TTsaid X.K Cx) := by
  intro f c' s H Q tl hr act hc tt
  obtain ⟨M, tt⟩ := tt
  have nd := scSd.nd
  refine ⟨_, (pss_cons (ps_try_as (i := 2) (c := .ref Cx) rfl rfl nd rfl rfl ⟨rfl, by decide, .inl TE.gC⟩ takes_no (fun W pn xe tk po =>
    (pss_one (ps_set (i := 1) nd rfl (Or.inl rfl) (act W pn xe _ _ tk))))
    (fun a oe cls d pn hz hf => (pss_one (ps_ret (pe_tup (pa_cons pe_str (pa_cons (pe_fld_ErrRef TE hz hf (pv 2)) (pa_cons (pe_and (pe_callB (call_isD_ErrRef XC hz hf) (by rfl) hi (by decide +kernel) (pa_cons (pv 2) (pa_cons (pe_glob (v := .ref Sx) rfl hS rfl) pa_nil))) (pe_one (pe_callB (call_isD_ErrRef XC hz hf) (by rfl) hi (by decide +kernel) (pa_cons (pv 2) (pa_cons (pe_bltn (v := .ty "ValueError") (u := .type "ValueError") (by rfl) hv (by decide +kernel) rfl) pa_nil))))) pa_nil))))))))
   (pss_one (ps_ret (pe_tup (pa_cons pe_str (pa_cons (pv 1) pa_nil)))))), ?_⟩
  have ok : ∀ H' : Hp, (∀ a ∈ M, H' a ≠ none) → Ok ⟨X.K, M, hide (ad []) H', hide M H'⟩ M [.m f, .u, .u] [] (L2.start nSd [.ref f]) H' := fun H' al => ok_startE (N := nSd) (es := [.m f]) (μ := []) al (.cons rfl .nil) (fun p hp => absurd hp List.not_mem_nil) .nil (by show 1 ≤ 3; decide)
  have full : ∀ {H' H'' : Hp} {δ : List Ent} {σ : L2.St}, Ok ⟨X.K, M, hide (ad []) H', hide M H'⟩ M δ [] σ H'' → Ex H' H'' := fun {H' H'' δ σ} o b u e => o.gr b u (by show hide [] H' b = some u; rw [hide_out List.not_mem_nil]; exact e)
  refine ⟨rfl, hc, tt _ _ (fun v d H' al dv fin => ?_) fun dd x H' al nM hdd fin => ?_⟩
  · have o1 := (ok H' al).set 1 (e := .d d) dv
    exact x_tup (ds := [.str "told", d]) (a_cons x_str (a_cons (x_vd rfl) a_nil)) (by simp) _ H' o1 _ fun u H'' o2 x2 r2 => fin u H'' (full o2) r2
  · refine ⟨true, TE.te, fun _ a ha => ?_, fun z => nomatch z⟩
    have o1 := (ok H' al).set 2 (e := .m a) rfl
    have hB : hide M H' dd = some (.xd [(("word" : Str), .str x)]) := by rw [hide_out nM]; exact hdd
    exact x_tup (ds := [.str "refused", .str x, .bool true]) (a_cons x_str (a_cons (x_fld_ErrRef (C := ⟨X.K, M, hide (ad []) H', hide M H'⟩) (dd := dd) (v := .str x) (d := .str x) rfl hB (fun _ => .str x)) (a_cons (x_is (x_andV (b := true) (c := true) (x_isD_ErrRef (C := ⟨X.K, M, hide (ad []) H', hide M H'⟩) (cw := .ref Sx) (cv := .ref Sx) rfl hB (fun u r => r) kS) (fun _ => x_isD_ErrRef (C := ⟨X.K, M, hide (ad []) H', hide M H'⟩) (cw := .ty "ValueError") (cv := .type "ValueError") rfl hB (fun u r => r) kV) (fun z => by cases z)) rfl) a_nil))) (by simp) _ H' o1 _ fun u H'' o2 x2 r2 => fin u H'' (full o2) r2
end K02
namespace FD
open PySem L2 Evl
theorem kop_catF {X : Cx} {K : PySem.W.Frag} (h : X.K = K) : OpR X (binaryOp .Add) (rCatF K) := h ▸ op_catF
/-- what a target does with a value of any kind -/
def TgE (K : PySem.W.Frag) (g : TG) (e : Ent) (δ δ' : List Ent) : Prop := ∀ (C : Cfg) (M : List Addr) (μ : Mem) (σ : L2.St) (H : Hp) (v : V), C.K = K → Ok C M δ μ σ H → EntOk K (hide M H) e v → ∀ Q : L2.St → Hp → Prop, (∀ σ', Ok C M δ' μ σ' H → Q σ' H) → g v σ H Q
theorem tge_name {K : PySem.W.Frag} {i : Nat} {e : Ent} {δ : List Ent} : TgE K (gName i) e δ (δ.set i e) := fun C M μ σ H v hK o h Q k => by
  subst hK
  exact k _ (o.set i (e := e) h)
theorem tge_pair {K : PySem.W.Frag} {i j : Nat} {k1 k2 : List Str} {δ : List Ent} : TgE K (gTup K 2 (gCons (gName i) (gCons (gName j) gNil))) (.rw [k1, k2]) δ ((δ.set i (.p k1)).set j (.p k2)) := fun C M μ σ H v hK o h Q k => by
  subst hK
  obtain ⟨a, vs, e1, e2, e3⟩ := h
  cases e3 with
  | cons q1 e3 =>
    cases e3 with
    | cons q2 e3 =>
      cases e3
      exact ⟨a, _, e1, ex_t hide_le e2, rfl, _, _, rfl, _, _, rfl, rfl, k _ ((o.set i (e := .p k1) q1).set j (e := .p k2) q2)⟩
section
variable {C : Cfg} {M : List Addr} {δ : List Ent} {μ μ1 : Mem} {tr : TA} {D : Ends} {t2 ts : TS} {es : List Ent}
/-- for .. in (a, b, ..) -/
theorem q_forLit {g : TG} (h : EvA C tr M δ μ μ1 es) (hz : es.length ≤ 1000) (Pv : Nat → List Ent → Mem → Prop) (h0 : Pv 0 δ μ1)
    (hs : ∀ B, Ex C.B B → ∀ (i : Nat) (e : Ent) (δ1 : List Ent) (μ1 : Mem), es[i]? = some e → Pv i δ1 μ1 → ∃ δ2, TgE C.K g e δ1 δ2 ∧
      Run { C with B := B } ts { D with nx := NX { C with B := B } M (Pv (i + 1)), ct := NX { C with B := B } M (Pv (i + 1)), bk := t2 D } M δ2 μ1)
    (hd : ∀ δ1 μ1, Pv es.length δ1 μ1 → Run C t2 D M δ1 μ1) : Run C (tSeq (tFor (iTup C.K (tTup tr)) g ts) t2) D M δ μ := fun σ H o => by
  refine h σ H o _ fun vs H0 o0 x0 r0 => ⟨by have := paired_len r0; rw [← this]; exact sz_of (by omega), fun p hp => ?_⟩
  have e1 : Ex H0 (upd H0 p (.tup vs)) := Ex.new hp
  have o1 := o0.grow e1
  have rs := Paired.mapP r0 fun _ _ q => EntOk.mono (hide_ex (M := M) e1) q
  have st : SqT C.K (hide M (upd H0 p (.tup vs))) p vs := SqT.of (by rw [hide_out (o0.fresh hp), upd_same])
  generalize upd H0 p (.tup vs) = H1 at o1 rs st
  have lv : vs.length = es.length := (paired_len r0).symm
  refine ⟨p, rfl, ⟨vs, ex_t hide_le st⟩, ?_⟩
  refine ⟨fun i m σ' H' => m = es.length - i ∧ i ≤ es.length ∧ NX { C with B := hide M H1 } M (Pv i) σ' H', ⟨es.length, by simp, Nat.zero_le _, δ, μ1, h0, o1.toB⟩, ?_⟩
  rintro i m σ' H' ⟨rfl, hi', δ1, μ2, hP, oi⟩
  have sa : SqT C.K H' p vs := ex_t hide_le (ex_t oi.base st)
  by_cases hlt : i < es.length
  · have ee : es[i]? = some es[i] := List.getElem?_eq_getElem hlt
    obtain ⟨u, hu, qu⟩ := paired_at rs ee
    refine .inr ⟨⟨vs, u, sa, hu⟩, NX { C with B := hide M H1 } M (Pv (i + 1)), fun σ2 H2 q => ⟨es.length - (i + 1), by omega, rfl, hlt, q⟩, fun x H2 y => ?_⟩
    obtain ⟨rfl, qy⟩ := y
    have e2 := qy vs sa
    rw [hu] at e2
    cases e2
    obtain ⟨δ2, tg, run⟩ := hs (hide M H1) (o1.base) i es[i] δ1 μ2 ee hP
    exact tg { C with B := hide M H1 } M _ _ _ _ rfl oi (EntOk.mono oi.base qu) _ fun σ3 o3 => run σ3 _ o3
  · have ei : i = es.length := by omega
    subst ei
    exact .inl ⟨⟨vs, sa, by omega⟩, hd δ1 μ2 hP σ' H' (oi.reB o1.base)⟩
end
end FD
namespace K02
open PySem L2 FD Evl
/-! rows of one deed, and the same with others around -/
def longR (x : Str) (n : Nat) : List Str := List.replicate n x
def mixR (x y : Str) (n : Nat) : List Str := ([y] ++ longR x n) ++ [y, x]
structure BdR (x y : Str) (n : Nat) (rs : List (List Str)) : Prop where
  mem : ∀ r ∈ rs, r = longR x n ∨ r = mixR x y n
  has : longR x n ∈ rs
  few : rs.length ≤ 3
theorem mix_len (x y : Str) (n : Nat) : (mixR x y n).length = n + 3 := by unfold mixR longR; simp
theorem long_len (x : Str) (n : Nat) : (longR x n).length = n := List.length_replicate ..
theorem long_sub (x y : Str) (n : Nat) : (longR x n).Sublist (mixR x y n) := (List.sublist_append_right _ _).trans (List.sublist_append_left _ _)
theorem long_good {x : Str} (h : tok x) (n : Nat) : Good (longR x n) := fun z hz => by rw [List.eq_of_mem_replicate hz]; exact h
theorem mix_good {x y : Str} (hx : tok x) (hy : tok y) (n : Nat) : Good (mixR x y n) := fun z hz => by
  unfold mixR at hz
  simp only [List.mem_append, List.mem_cons, List.not_mem_nil, or_false] at hz
  rcases hz with (h | h) | h | h
  · rw [h]; exact hy
  · exact long_good hx n z h
  · rw [h]; exact hy
  · rw [h]; exact hx
theorem BdR.ra {x y : Str} {n : Nat} {rs : List (List Str)} (h : BdR x y n rs) (hx : tok x) (hy : tok y) (hn : n ≤ 13) : RAok rs := by
  refine ⟨fun z => ?_, by have := h.few; omega, fun r hr => ?_⟩
  · have := h.has
    rw [z] at this; cases this
  · rcases h.mem r hr with rfl | rfl
    · exact ⟨long_good hx n, by rw [long_len]; omega⟩
    · exact ⟨mix_good hx hy n, by rw [mix_len]; omega⟩
theorem BdR.rem {x y : Str} {n : Nat} {rs : List (List Str)} (h : BdR x y n rs) : remA rs = n := by
  have h1 := remA_le h.has
  rw [long_len] at h1
  obtain ⟨r, hr, e⟩ := remA_mem (rs := rs) (fun z => by have := h.has; rw [z] at this; cases this)
  rcases h.mem r hr with rfl | rfl
  · rw [long_len] at e; omega
  · rw [mix_len] at e; omega
theorem BdR.ca {x y : Str} {n : Nat} {rs : List (List Str)} (h : BdR x y n rs) (hx : tok x) (hy : tok y) (hn : n ≤ 12) : CAok rs ∧ comA rs = [longR x n] := by
  have c : CAok rs := ⟨h.ra hx hy (by omega), .inr ⟨by rw [h.rem]; exact hn, cap_rep h.has⟩⟩
  refine ⟨c, comA_one c h.has fun o ho => ?_⟩
  rcases h.mem o ho with rfl | rfl
  · exact List.Sublist.refl _
  · exact long_sub x y n
def dueD (x : Str) (n : Nat) : PyData := if decide ((n : Int) ≤ 12) = true then .tuple [.str "told", .tuple [ts (longR x n)]] else .tuple [.str "refused", .str "long", .bool true]
theorem due_told {x : Str} {n : Nat} (h : n ≤ 12) : dueD x n = .tuple [.str "told", .tuple [ts (longR x n)]] := if_pos (decide_eq_true (by omega))
theorem due_ref {x : Str} {n : Nat} (h : 12 < n) : dueD x n = .tuple [.str "refused", .str "long", .bool true] := if_neg (by rw [decide_eq_false (by omega)]; decide)
theorem due_sh {x : Str} {n : Nat} (hx : tok x) : SeqAt.shaped (dueD x n) = true := by
  rcases Nat.lt_or_ge 12 n with h | h
  · rw [due_ref h]; decide +kernel
  · rw [due_told h]
    refine (shp_tuple (n := 2) fun d hd => ?_).shaped (by decide)
    simp only [List.mem_cons, List.not_mem_nil, or_false] at hd
    rcases hd with rfl | rfl
    · exact shp_str 2 (by unfold tok; decide +kernel)
    · exact shp_tuple (n := 1) fun d hd => by rw [List.mem_singleton.mp hd]; exact shp_ts 0 (long_good hx n)
theorem due_self {x : Str} {n : Nat} : PyData.eqv (dueD x n) (dueD x n) = true := by
  have h1 : PyData.eqv (ts (longR x n)) (ts (longR x n)) = true := by have := eqv_rowD (longR x n) (longR x n); rw [decide_eq_true rfl] at this; exact this
  rcases Nat.lt_or_ge 12 n with h | h
  · rw [due_ref h]; decide +kernel
  · rw [due_told h]; simp [PyData.eqv, PyData.eqvAll, h1]
def qBd : Str := "_law_bound_right" ++ ".<locals>." ++ "<lambda>"
def Rbd (Tb : Addr) (es : List Ent) (μ : Mem) (d : PyData) (μ' : Mem) : Prop := ∃ (x y : Str) (n : Nat), es = [.d (.str x), .d (.str y), .d (.int (n : Int))] ∧ μ = [(Tb, .tb qBd)] ∧ μ' = μ ∧ tok x ∧ tok y ∧ (n = 12 ∨ n = 13) ∧ d = .bool true
section
variable {P : Program} {w : World} {K : PySem.W.Frag} {mg : Str → Option Value} {base : Heap} {Cx Sx fI : Addr}
abbrev nBd : List Str := ["_law_name", "_law_other", "_law_many", "_law_long", "_law_mixed", "_law_due", "_law_rows", "_law_one", "_law_two"]
theorem scBd : FnScope nBd ["_law_name", "_law_other", "_law_many"] (defScope sBd) := ⟨rfl, rfl, rfl, by decide +kernel, rfl, by decide +kernel, by decide +kernel⟩
theorem ok_bd {f : Addr} {fd : FuncData} (T : Txt mg) (TE : PySem.ErrRef.ErrTxt K mg P Cx fI) (XC : ExcC K Cx) (hS : mg "StillError" = some (.ref Sx)) (kS : PySem.W.kitOne K (.ref Cx) (.ref Sx) = some true) (kV : PySem.W.kitOne K (.ref Cx) (.type "ValueError") = some true) (F : Fun K "_law_bound_right" "_law_bound_right" sBd f fd) {c Tb : Addr} (TB : LamX.TabB base mg c Tb) (hcd : fd.code = .ref c)
    {f1 f2 f3 : Addr} {fd1 fd2 fd3 : FuncData} (HSd : Has K mg "_law_said" sSd ["_law_work"] f1 fd1) (HCo : Has K mg "common" sCo ["u", "v"] f2 fd2) (HCa : Has K mg "common_all" sCa ["rows"] f3 fd3)
    (GCo : FnOk P w K mg base (L2.CX P w) 18 f2 fd2 ["u", "v"] (spEX K 2 Rco Cx "word" Rox)) (GCa : FnOk P w K mg base (L2.CX P w) 17 f3 fd3 ["rows"] (spEX K 1 Rca Cx "word" Rcx)) : FnOk P w K mg base CX0 21 f fd ["_law_name", "_law_other", "_law_many"] (spE K 3 (Rbd Tb)) := by
  refine def_EC F scBd (by decide) rfl fun cdv A outer s H E hc hr => ?_
  have nd := scBd.nd
  refine ⟨_, (pss_cons (ps_set (i := 3) nd rfl (Or.inl rfl) (pe_op op_repF (pe_tupF (pa_cons (pv 0) pa_nil)) (pv 2)))
 (pss_cons (ps_set (i := 4) nd rfl (Or.inr rfl) (pe_op op_catF (pe_op op_catF (pe_tupF (pa_cons (pv 1) pa_nil)) (pv 3)) (pe_tupF (pa_cons (pv 1) (pa_cons (pv 0) pa_nil)))))
 (pss_cons (ps_set (i := 5) nd rfl (Or.inl rfl) (pe_ifExp (pt_cmpR op_le (pv 2) pe_int (nomark _)) (pe_tup (pa_cons pe_str (pa_cons (pe_tup (pa_cons (pv 3) pa_nil)) pa_nil))) (pe_tup (pa_cons pe_str (pa_cons pe_str (pa_cons pe_bl pa_nil))))))
 (pss_cons (ps_for PassesOwn.never rfl (pi_tup (pe_tup (pa_cons (pe_tup (pa_cons (pv 3) (pa_cons (pv 4) pa_nil))) (pa_cons (pe_tup (pa_cons (pv 4) (pa_cons (pv 3) pa_nil))) pa_nil)))) (pg_tup rfl (pgs_cons (pg_name (i := 7) nd rfl (Or.inr rfl)) (pgs_cons (pg_name (i := 8) nd rfl (Or.inr rfl)) pgs_nil))) (pss_one (ps_if (pt_cmpR (op_neD hr.units) (pe_lamQ (k := 18) HSd.F rfl HSd.m HSd.b scSd rfl (Or.inl rfl) (fun _ => sd_gives T.isinstance T.ValueError TE XC hS kS kV) TB (hc.trans hcd) hr (LamX.lamS_by (by show LamX.lamSB (defScope sBd) _ = true; decide +kernel)) rfl (fun _ _ _ _ _ => rfl) (fun A outer s H E f c' hr => pe_call GCo hr rfl HCo.m HCo.F.kp HCo.b .nil (passes_call (W := fun cls d _ H => E cls d H) (takes_of rfl rfl rfl rfl) (fun _ _ _ _ h => h)) (pa_cons (pv 7) (pa_cons (pv 8) pa_nil)))) (pv 5) (nomark _)) (pss_one (ps_ret pe_bl)) pss_nil)))
 (pss_cons (ps_for PassesOwn.never rfl (pi_tup (pe_tup (pa_cons (pe_lst (pa_cons (pv 4) (pa_cons (pv 3) (pa_cons (pv 4) pa_nil)))) (pa_cons (pe_tup (pa_cons (pv 3) pa_nil)) (pa_cons (pe_lst (pa_cons (pv 3) (pa_cons (pv 3) pa_nil))) pa_nil))))) (pg_name (i := 6) nd rfl (Or.inr rfl)) (pss_one (ps_if (pt_cmpR (op_neD hr.units) (pe_lamQ (k := 18) HSd.F rfl HSd.m HSd.b scSd rfl (Or.inl rfl) (fun _ => sd_gives T.isinstance T.ValueError TE XC hS kS kV) TB (hc.trans hcd) hr (LamX.lamS_by (by show LamX.lamSB (defScope sBd) _ = true; decide +kernel)) rfl (fun _ _ _ _ _ => rfl) (fun A outer s H E f c' hr => pe_call GCa (hr.mono (by decide)) rfl HCa.m HCa.F.kp HCa.b .nil (passes_call (W := fun cls d _ H => E cls d H) (takes_of rfl rfl rfl rfl) (fun _ _ _ _ h => h)) (pa_cons (pv 6) pa_nil))) (pv 5) (nomark _)) (pss_one (ps_ret pe_bl)) pss_nil)))
 (pss_one (ps_ret (pe_cmpR (op_eqD hr.units) (pe_lamQ (k := 18) HSd.F rfl HSd.m HSd.b scSd rfl (Or.inl rfl) (fun _ => sd_gives T.isinstance T.ValueError TE XC hS kS kV) TB (hc.trans hcd) hr (LamX.lamS_by (by show LamX.lamSB (defScope sBd) _ = true; decide +kernel)) rfl (fun _ _ _ _ _ => rfl) (fun A outer s H E f c' hr => pe_call GCa (hr.mono (by decide)) rfl HCa.m HCa.F.kp HCa.b .nil (passes_call (W := fun cls d _ H => E cls d H) (takes_of rfl rfl rfl rfl) (fun _ _ _ _ h => h)) (pa_cons (pe_tup (pa_cons (pe_op (kop_catF (K := K) rfl) (pv 4) (pv 4)) (pa_cons (pe_tupF (pa_cons (pv 0) (pa_cons (pv 1) pa_nil))) (pa_cons (pv 4) pa_nil)))) pa_nil))) (pe_tup (pa_cons pe_str (pa_cons (pe_tup (pa_cons (pe_tup (pa_cons (pv 0) (pa_cons (pv 1) pa_nil))) pa_nil)) pa_nil))) (nomark _))))))))), ?_⟩
  rintro M G B es μ d μ' ⟨x, y, n, rfl, rfl, rfl, tx, ty, hn, rfl⟩ D fin
  show FD.Run _ _ D M [.d (.str x), .d (.str y), .d (.int (n : Int)), .u, .u, .u, .u, .u, .u] [(Tb, .tb qBd)]
  have n13 : n ≤ 13 := by omega
  have P1 : ∀ {m : Nat}, m = n → True := fun _ => trivial
  refine q_asg (e := .p (longR x n)) (x_is (x_op (x_tupF (k := [x]) (a_cons (x_vd rfl) a_nil) (by simp)) (x_vd rfl) (o_repP (k := [x]) (n := n) (by omega) (by omega) (by show 1 ≤ 1000; decide))) (by rw [flatten_one]; rfl)) ?_
  have ll := long_len x n
  refine q_asg (e := .p (mixR x y n)) (x_op (x_op (x_tupF (k := [y]) (a_cons (x_vd rfl) a_nil) (by simp)) (x_vp rfl) (o_catP (by rw [ll]; show 1 + n ≤ _; omega))) (x_tupF (k := [y, x]) (a_cons (x_vd rfl) (a_cons (x_vd rfl) a_nil)) (by simp)) (o_catP (by rw [List.length_append, ll]; show 1 + n + 2 ≤ _; omega))) ?_
  refine q_asg (e := .d (dueD x n)) (x_if2 (t_test (x_op (x_vd rfl) x_int o_B0)) (x_tup (ds := [.str "told", .tuple [ts (longR x n)]]) (a_cons x_str (a_cons (x_tup (ds := [ts (longR x n)]) (a_cons (x_vpt rfl) a_nil) (by simp)) a_nil)) (by simp)) (x_tup (ds := [.str "refused", .str "long", .bool true]) (a_cons x_str (a_cons x_str (a_cons x_bl a_nil))) (by simp))) ?_
  show FD.Run _ _ D M [.d (.str x), .d (.str y), .d (.int (n : Int)), .p (longR x n), .p (mixR x y n), .d (dueD x n), .u, .u, .u] [(Tb, .tb qBd)]
  have hP : (Tb, MO.tb qBd) ∈ [(Tb, MO.tb qBd)] := List.mem_singleton.mpr rfl
  have ne0 : (!PyData.eqv (dueD x n) (dueD x n)) = false := by rw [due_self]; rfl
  have sh := due_sh (n := n) tx
  refine q_forLit (es := [.rw [longR x n, mixR x y n], .rw [mixR x y n, longR x n]]) (a_cons (x_tupR (ks := [longR x n, mixR x y n]) (a_cons (x_vp rfl) (a_cons (x_vp rfl) a_nil)) (by simp)) (a_cons (x_tupR (ks := [mixR x y n, longR x n]) (a_cons (x_vp rfl) (a_cons (x_vp rfl) a_nil)) (by simp)) a_nil)) (by show 2 ≤ 1000; decide) (fun i δ μ => ∃ e7 e8, δ = [.d (.str x), .d (.str y), .d (.int (n : Int)), .p (longR x n), .p (mixR x y n), .d (dueD x n), .u, e7, e8] ∧ μ = [(Tb, .tb qBd)]) ⟨_, _, rfl, rfl⟩ ?_ ?_
  · rintro B' hB i e δ1 μ1 hi ⟨e7, e8, rfl, rfl⟩
    obtain ⟨k1, k2, rfl, hb⟩ : ∃ k1 k2, e = .rw [k1, k2] ∧ BdR x y n [k1, k2] := by
      have hm := List.mem_of_getElem? hi
      simp only [List.mem_cons, List.not_mem_nil, or_false] at hm
      rcases hm with rfl | rfl
      · exact ⟨_, _, rfl, fun r hr => by simpa using hr, by simp, by show 2 ≤ 3; decide⟩
      · exact ⟨_, _, rfl, fun r hr => by simp only [List.mem_cons, List.not_mem_nil, or_false] at hr; exact hr.symm, by simp, by show 2 ≤ 3; decide⟩
    refine ⟨_, tge_pair, ?_⟩
    show FD.Run _ _ _ _ [.d (.str x), .d (.str y), .d (.int (n : Int)), .p (longR x n), .p (mixR x y n), .d (dueD x n), .u, .p k1, .p k2] [(Tb, .tb qBd)]
    refine r_if (b := false) (t_is (t_test (x_op (e1 := .d (dueD x n)) ?_ (x_vd rfl) (o_neD (.d _) (.d _) sh sh))) ne0) (fun z => by cases z) fun _ => r_next fun σ H o => ⟨_, _, ⟨_, _, rfl, rfl⟩, o⟩
    rcases Nat.lt_or_ge 12 n with h | h
    · rw [due_ref h]
      exact x_saidX hP (ra_call (a_cons (x_vp rfl) (a_cons (x_vp rfl) a_nil)) ⟨k1, k2, rfl, rfl, hb.ra tx ty n13, by rw [hb.rem]; exact h, rfl⟩)
    · obtain ⟨c, e⟩ := hb.ca tx ty h
      rw [due_told h]
      exact x_saidT hP fun E => x_callEX0 (a_cons (x_vp rfl) (a_cons (x_vp rfl) a_nil)) ⟨k1, k2, rfl, rfl, rfl, c, by rw [e]; rfl⟩
  rintro δ1 μ1 ⟨e7, e8, rfl, rfl⟩
  refine q_forLit (es := [.lr [mixR x y n, longR x n, mixR x y n], .rw [longR x n], .lr [longR x n, longR x n]]) (a_cons (x_lstR (ks := [mixR x y n, longR x n, mixR x y n]) (a_cons (x_vp rfl) (a_cons (x_vp rfl) (a_cons (x_vp rfl) a_nil))) (by simp)) (a_cons (x_tupR (ks := [longR x n]) (a_cons (x_vp rfl) a_nil) (by simp)) (a_cons (x_lstR (ks := [longR x n, longR x n]) (a_cons (x_vp rfl) (a_cons (x_vp rfl) a_nil)) (by simp)) a_nil))) (by show 3 ≤ 1000; decide) (fun i δ μ => ∃ e6, δ = [.d (.str x), .d (.str y), .d (.int (n : Int)), .p (longR x n), .p (mixR x y n), .d (dueD x n), e6, e7, e8] ∧ μ = [(Tb, .tb qBd)]) ⟨_, rfl, rfl⟩ ?_ ?_
  · rintro B' hB i e δ1 μ1 hi ⟨e6, rfl, rfl⟩
    obtain ⟨rs, hrw, hb⟩ : ∃ rs, isRw e rs ∧ BdR x y n rs := by
      have hm := List.mem_of_getElem? hi
      simp only [List.mem_cons, List.not_mem_nil, or_false] at hm
      rcases hm with rfl | rfl | rfl
      · refine ⟨_, .inr rfl, fun r hr => ?_, by simp, Nat.le_refl 3⟩
        simp only [List.mem_cons, List.not_mem_nil, or_false] at hr
        rcases hr with h | h | h
        · exact .inr h
        · exact .inl h
        · exact .inr h
      · exact ⟨_, .inl rfl, fun r hr => .inl (List.mem_singleton.mp hr), by simp, by show 1 ≤ 3; decide⟩
      · refine ⟨_, .inr rfl, fun r hr => ?_, by simp, by show 2 ≤ 3; decide⟩
        simp only [List.mem_cons, List.not_mem_nil, or_false] at hr
        exact .inl (hr.elim id id)
    refine ⟨_, tge_name, ?_⟩
    show FD.Run _ _ _ _ [.d (.str x), .d (.str y), .d (.int (n : Int)), .p (longR x n), .p (mixR x y n), .d (dueD x n), e, e7, e8] [(Tb, .tb qBd)]
    have hu : e ≠ .u := by rcases hrw with rfl | rfl <;> exact fun z => nomatch z
    refine r_if (b := false) (t_is (t_test (x_op (e1 := .d (dueD x n)) ?_ (x_vd rfl) (o_neD (.d _) (.d _) sh sh))) ne0) (fun z => by cases z) fun _ => r_next fun σ H o => ⟨_, _, ⟨_, rfl, rfl⟩, o⟩
    rcases Nat.lt_or_ge 12 n with h | h
    · rw [due_ref h]
      exact x_saidX hP (ra_call (a_cons (x_var rfl hu) a_nil) ⟨e, rs, rfl, hrw, rfl, hb.ra tx ty n13, by rw [hb.rem]; exact h, rfl⟩)
    · obtain ⟨c, q⟩ := hb.ca tx ty h
      rw [due_told h]
      exact x_saidT hP fun E => x_callEX0 (a_cons (x_var rfl hu) a_nil) ⟨e, rs, rfl, hrw, rfl, rfl, c, by rw [q]; rfl⟩
  rintro δ1 μ1 ⟨e6, rfl, rfl⟩
  have lm := mix_len x y n
  have gm := mix_good tx ty n
  have gxy : Good [x, y] := fun z hz => by
    simp only [List.mem_cons, List.not_mem_nil, or_false] at hz
    rcases hz with rfl | rfl
    · exact tx
    · exact ty
  have s1 : [x, y].Sublist (mixR x y n) := by
    have a : [x].Sublist ([y] ++ longR x n) := (List.singleton_sublist.mpr (List.mem_append_right _ (List.mem_replicate.mpr ⟨by omega, rfl⟩)))
    have b : [y].Sublist [y, x] := List.singleton_sublist.mpr (by simp)
    exact a.append b
  have c3 : CAok [mixR x y n ++ mixR x y n, [x, y], mixR x y n] := by
    refine ⟨⟨by simp, by show 3 ≤ 40; decide, fun r hr => ?_⟩, .inl ?_⟩
    · simp only [List.mem_cons, List.not_mem_nil, or_false] at hr
      rcases hr with rfl | rfl | rfl
      · exact ⟨fun z hz => (List.mem_append.mp hz).elim (gm z) (gm z), by rw [List.length_append, lm]; omega⟩
      · exact ⟨gxy, by show 2 ≤ 100; decide⟩
      · exact ⟨gm, by omega⟩
    · have := remA_le (rs := [mixR x y n ++ mixR x y n, [x, y], mixR x y n]) (r := [x, y]) (by simp)
      exact Nat.le_trans this (by show 2 ≤ 6; decide)
  have told : comA [mixR x y n ++ mixR x y n, [x, y], mixR x y n] = [[x, y]] := comA_one c3 (by simp) fun o ho => by
    simp only [List.mem_cons, List.not_mem_nil, or_false] at ho
    rcases ho with rfl | rfl | rfl
    · exact s1.trans (List.sublist_append_left _ _)
    · exact List.Sublist.refl _
    · exact s1
  have shx : SeqAt.shaped (.tuple [.str "told", .tuple [ts [x, y]]]) = true := by
    refine (shp_tuple (n := 2) fun d hd => ?_).shaped (by decide)
    simp only [List.mem_cons, List.not_mem_nil, or_false] at hd
    rcases hd with rfl | rfl
    · exact shp_str 2 (by unfold tok; decide +kernel)
    · exact shp_tuple (n := 1) fun d hd => by rw [List.mem_singleton.mp hd]; exact shp_ts 0 gxy
  have exy : PyData.eqv (.tuple [.str "told", .tuple [ts [x, y]]]) (.tuple [.str "told", .tuple [ts [x, y]]]) = true := by
    have h1 : PyData.eqv (ts [x, y]) (ts [x, y]) = true := by have := eqv_rowD [x, y] [x, y]; rw [decide_eq_true rfl] at this; exact this
    simp [PyData.eqv, PyData.eqvAll, h1]
  exact r_retE (x_is (x_op (e1 := .d (.tuple [.str "told", .tuple [ts [x, y]]])) (x_saidT hP fun E => x_callEX0 (a_cons (x_tupR (ks := [mixR x y n ++ mixR x y n, [x, y], mixR x y n]) (a_cons (x_op (x_vp rfl) (x_vp rfl) (o_catP (by omega))) (a_cons (x_tupF (k := [x, y]) (a_cons (x_vd rfl) (a_cons (x_vd rfl) a_nil)) (by simp)) (a_cons (x_vp rfl) a_nil))) (by simp)) a_nil) ⟨_, _, rfl, .inl rfl, rfl, rfl, c3, by rw [told]; rfl⟩) (x_tup (ds := [.str "told", .tuple [ts [x, y]]]) (a_cons x_str (a_cons (x_tup (ds := [ts [x, y]]) (a_cons (x_tup (ds := [x, y].map .str) (a_cons (x_vd rfl) (a_cons (x_vd rfl) a_nil)) (by simp)) a_nil) (by simp)) a_nil)) (by simp)) (o_eqD (.d _) (.d _) shx shx)) (by rw [exy])) (fun z hz => hz) fin
end
end K02
namespace K02
open PySem L2 FD Evl
/-! ### _law_changed: a row with deeds struck out and others put in -/
theorem cutD_to8 (k : List Str) : cutD (k.map .str) none (some 8) = (k.take 8).map .str := by
  unfold cutD
  have e2 : HT.sIx (k.map PyData.str).length (k.map PyData.str).length (some ((8 : Nat) : Int)) = min 8 (k.map PyData.str).length := HT.sIx_nat _ _ _
  have e3 : (some 8 : Option Int) = some ((8 : Nat) : Int) := rfl
  rw [e3, e2, HT.sIx_none, List.drop_zero, Nat.sub_zero, List.length_map, List.map_take]
  by_cases r : 8 ≤ k.length
  · rw [Nat.min_eq_left r]
  · rw [Nat.min_eq_right (by omega), List.take_of_length_le (by simp), List.take_of_length_le (by simp; omega)]
def chS (bx : Box) (r nm : List Str) : Nat → Box × List Str
  | 0 => (bx, [])
  | i + 1 =>
    let b := (chS bx r nm i).1
    let l := if 0 < tkV b 3 then (chS bx r nm i).2 ++ [r.getD i ""] else (chS bx r nm i).2
    let b2 := tkB (tkB b 3) 4
    if tkV (tkB b 3) 4 = 0 then (tkB b2 nm.length, l ++ [nm.getD (tkV b2 nm.length).toNat ""]) else (b2, l)
def chV (bx : Box) (r nm : List Str) : List Str := (chS bx r nm r.length).2.take 8
def chB (bx : Box) (r nm : List Str) : Box := (chS bx r nm r.length).1
theorem chS_len (bx : Box) (r nm : List Str) (i : Nat) : (chS bx r nm i).2.length ≤ 2 * i := by
  induction i with
  | zero => exact Nat.le_refl _
  | succ i ih =>
    simp only [chS]
    split <;> split <;> simp <;> omega
theorem chS_mem {bx : Box} {r nm : List Str} (h0 : 0 < nm.length) (i : Nat) (hi : i ≤ r.length) : ∀ x ∈ (chS bx r nm i).2, x ∈ r ∨ x ∈ nm := by
  induction i with
  | zero => intro x h; simp [chS] at h
  | succ i ih =>
    have ih := ih (by omega)
    have hr : r.getD i "" ∈ r := by rw [List.getD_eq_getElem?_getD, List.getElem?_eq_getElem (by omega)]; exact List.getElem_mem (by omega)
    have hn : ∀ b : Box, nm.getD (tkV b nm.length).toNat "" ∈ nm := fun b => List.mem_of_getElem? (pick_get h0)
    intro x hx
    simp only [chS] at hx
    split at hx <;> split at hx <;> simp only [List.mem_append, List.mem_singleton] at hx
    · rcases hx with (hx | rfl) | rfl
      · exact ih x hx
      · exact .inl hr
      · exact .inr (hn _)
    · rcases hx with hx | rfl
      · exact ih x hx
      · exact .inr (hn _)
    · rcases hx with hx | rfl
      · exact ih x hx
      · exact .inl hr
    · exact ih x hx
theorem chV_len (bx : Box) (r nm : List Str) : (chV bx r nm).length ≤ 8 := by unfold chV; rw [List.length_take]; omega
theorem chV_mem {bx : Box} {r nm : List Str} (h0 : 0 < nm.length) : ∀ x ∈ chV bx r nm, x ∈ r ∨ x ∈ nm := fun x hx => chS_mem h0 _ (Nat.le_refl _) x (List.mem_of_mem_take hx)
def Rch (es : List Ent) (μ : Mem) (e : Ent) (μ' : Mem) : Prop := ∃ (b : Addr) (bx : Box) (r l : List Str), es = [.m b, .p r, .d (.list (l.map .str))] ∧ μ = [(b, .lst bx.ds)] ∧ 0 < l.length ∧ l.length ≤ 100 ∧ r.length ≤ 100 ∧ e = .p (chV bx r l) ∧ μ' = [(b, .lst (chB bx r l).ds)]
section
variable {C : Cfg} {M : List Addr} {δ : List Ent} {μ : Mem} {tb tn : TE} {E : XK} {p : Addr} {b : Box} {xs : List PyData} {d : PyData}
theorem x_pickJ (j : Nat) (h1 : EvX C tb M δ μ μ (.m p)) (h2 : EvX C tn M δ μ μ (.d (.list xs))) (hj : μ[j]? = some (p, .lst b.ds)) (h0 : 0 < xs.length) (h3 : xs.length < 100000)
    (hx : xs[(tkV b xs.length).toNat]? = some d) : EvX C (tCall (spE C.K 2 Rpk) [] E (tCons tb (tCons tn tNil))) M δ μ (μ.set j (p, .lst (tkB b xs.length).ds)) (.d d) :=
  fun σ H o Q k => x_callE (a_cons h1 (a_cons h2 a_nil)) (swap_set hj o.nd) (by simp [ad]) ⟨p, b, xs, h0, h3, hx, .inl ⟨rfl, rfl, rfl⟩⟩ rfl σ H o Q k
end
section
variable {P : Program} {w : World} {K : PySem.W.Frag} {mg : Str → Option Value} {base : Heap}
abbrev nCh : List Str := ["_law_box_here", "_law_row_here", "_law_names_here", "_law_found", "_law_deed"]
theorem scCh : FnScope nCh ["_law_box_here", "_law_row_here", "_law_names_here"] (defScope sCh) := ⟨rfl, rfl, rfl, by decide +kernel, rfl, by decide +kernel, by decide +kernel⟩
theorem ok_ch {f : Addr} {fd : FuncData} (T : Txt mg) (F : Fun K "_law_changed" "_law_changed" sCh f fd) {f1 f2 : Addr} {fd1 fd2 : FuncData} (H1 : Has K mg "_law_take" sTk ["_law_box_here", "_law_many"] f1 fd1) (H2 : Has K mg "_law_pick" sPk ["_law_box_here", "_law_some"] f2 fd2) : FnOk P w K mg base CX0 3 f fd ["_law_box_here", "_law_row_here", "_law_names_here"] (spG K 3 Rch) := by
  have G1 : FnOk P w K mg base CX0 1 f1 fd1 ["_law_box_here", "_law_many"] (spW K 2 Rtk) := ok_tk T H1.F
  have G2 : FnOk P w K mg base CX0 2 f2 fd2 ["_law_box_here", "_law_some"] (spE K 2 Rpk) := ok_pk T H2.F H1
  refine def_G F scCh (by decide) rfl fun cdv A outer s H E hr => ?_
  have nd := scCh.nd
  refine ⟨_, (pss_cons (ps_set (i := 3) nd rfl (Or.inl rfl) (pe_lst pa_nil))
 (pss_cons (ps_for PassesOwn.never rfl (pi_tup (pv 1)) (pg_name (i := 4) nd rfl (Or.inl rfl)) (pss_cons (ps_if (pt_cmpR op_gt (pe_call G1 (hr.mono (by decide)) rfl H1.m H1.F.kp H1.b .nil pass0 (pa_cons (pv 0) (pa_cons pe_int pa_nil))) pe_int (nomark _)) (pss_one (ps_expr (pe_bm PySem.F.plainAttrs_list PySem.F.slot_list_append PySem.F.type_list_append mt_append (pv 3) (pa_cons (pv 4) pa_nil)))) pss_nil)
 (pss_one (ps_if (pt_cmpR (op_eqD hr.units) (pe_call G1 (hr.mono (by decide)) rfl H1.m H1.F.kp H1.b .nil pass0 (pa_cons (pv 0) (pa_cons pe_int pa_nil))) pe_int (nomark _)) (pss_one (ps_expr (pe_bm PySem.F.plainAttrs_list PySem.F.slot_list_append PySem.F.type_list_append mt_append (pv 3) (pa_cons (pe_call G2 hr rfl H2.m H2.F.kp H2.b .nil pass0 (pa_cons (pv 0) (pa_cons (pv 2) pa_nil))) pa_nil)))) pss_nil))))
 (pss_one (ps_ret (pe_callTy cr_tupF (by rfl) T.tuple (by decide +kernel) (pa_cons (pe_slice sl_list (pv 3) po_none (po_some pe_int)) pa_nil)))))), ?_⟩
  rintro M G B es μ e μ' ⟨b, bx, r, l, rfl, rfl, l0, l1, r1, rfl, rfl⟩ D fin
  show Run _ _ D M [.m b, .p r, .d (.list (l.map .str)), .u, .u] [(b, .lst bx.ds)]
  have hlen : (l.map PyData.str).length = l.length := List.length_map ..
  refine q_new (ds := []) a_nil (Nat.zero_le _) fun f hfM => ?_
  show Run _ _ D (f :: M) [.m b, .p r, .d (.list (l.map .str)), .m f, .u] [(f, .lst []), (b, .lst bx.ds)]
  refine q_for (i_tup (x_vpt rfl)) (fun i δ μ => ∃ e4, δ = [.m b, .p r, .d (.list (l.map .str)), .m f, e4] ∧ μ = [(f, .lst ((chS bx r l i).2.map .str)), (b, .lst (chS bx r l i).1.ds)]) ⟨_, rfl, rfl⟩ ?_ ?_
  · rintro B' hB i d δ1 μ1 hi ⟨e4, rfl, rfl⟩
    have hil : i < r.length := by have := (List.getElem?_eq_some_iff.mp hi).1; rwa [List.length_map] at this
    have hd : d = .str (r.getD i "") := by
      rw [List.getElem?_map, List.getElem?_eq_getElem hil] at hi
      rw [List.getD_eq_getElem?_getD, List.getElem?_eq_getElem hil]
      exact (Option.some.inj hi).symm
    subst hd
    have hc := chS_len bx r l i
    have hS : chS bx r l (i + 1) = if tkV (tkB (chS bx r l i).1 3) 4 = 0 then (tkB (tkB (tkB (chS bx r l i).1 3) 4) l.length, (if 0 < tkV (chS bx r l i).1 3 then (chS bx r l i).2 ++ [r.getD i ""] else (chS bx r l i).2) ++ [l.getD (tkV (tkB (tkB (chS bx r l i).1 3) 4) l.length).toNat ""]) else (tkB (tkB (chS bx r l i).1 3) 4, if 0 < tkV (chS bx r l i).1 3 then (chS bx r l i).2 ++ [r.getD i ""] else (chS bx r l i).2) := rfl
    rw [hS]
    generalize chS bx r l i = st at hc
    obtain ⟨b1, l1⟩ := st
    generalize r.getD i "" = x
    dsimp only at hc ⊢
    refine ⟨[4], _, tg_name, ?_⟩
    show Run _ _ _ _ [.m b, .p r, .d (.list (l.map .str)), .m f, .d (.str x)] [(f, .lst (l1.map .str)), (b, .lst b1.ds)]
    have hl2 : (if 0 < tkV b1 3 then l1 ++ [x] else l1).length ≤ 2 * i + 1 := by
      split
      · rw [List.length_append]; show l1.length + 1 ≤ _; omega
      · omega
    refine q_whenJ (b := decide (0 < tkV b1 3)) (fun δ μ => δ = [.m b, .p r, .d (.list (l.map .str)), .m f, .d (.str x)] ∧ μ = [(f, .lst ((if 0 < tkV b1 3 then l1 ++ [x] else l1).map .str)), (b, .lst (tkB b1 3).ds)]) (t_test (x_op (x_takeJ 1 (x_vm rfl) x_int rfl (by decide) (by decide)) x_int o_B0)) (fun hb D' kk => ?_) (fun hb => ⟨rfl, ?_⟩) ?_
    · exact r_app (j := 0) (x_vm rfl) (x_vd rfl) rfl rfl (by rw [List.length_map]; omega) (kk _ _ ⟨rfl, by rw [if_pos (of_decide_eq_true hb), List.map_append]; rfl⟩)
    · rw [if_neg (of_decide_eq_false hb)]; rfl
    rintro δ1 μ1 ⟨rfl, rfl⟩
    generalize (if 0 < tkV b1 3 then l1 ++ [x] else l1) = l2 at hl2
    generalize tkB b1 3 = b2
    refine r_if (b := decide (tkV b2 4 = 0)) (t_is (t_test (x_op (x_takeJ 1 (x_vm rfl) x_int rfl (by decide) (by decide)) x_int (o_eqD (.d _) (.d _) ((shp_int 0 _).shaped (by decide)) ((shp_int 0 _).shaped (by decide))))) (by rw [eqv_int]; exact Bool.beq_eq_decide_eq _ _)) (fun hb => ?_) fun hb => ?_
    · have hb := of_decide_eq_true hb
      rw [if_pos hb]
      refine r_app (j := 0) (x_vm rfl) (x_pickJ 1 (b := tkB b2 4) (x_vm rfl) (x_vd rfl) rfl (by rw [hlen]; exact l0) (by rw [hlen]; omega) (ts_get (by rw [hlen]; exact pick_get l0))) rfl rfl (by rw [List.length_map]; omega) (nx_of (D := D) ⟨_, rfl, ?_⟩)
      rw [hlen, List.map_append]; rfl
    · have hb := of_decide_eq_false hb
      rw [if_neg hb]
      exact r_next (nx_of (D := D) ⟨_, rfl, rfl⟩)
  · rintro δ1 μ1 ⟨e4, rfl, rfl⟩
    rw [List.length_map]
    have hc := chS_len bx r l r.length
    refine r_retG (x_cb (a_cons (e := .d (.list ((chV bx r l).map .str))) (x_is (x_slL (lo := none) (hi := some 8) (x_vm rfl) p_none (p_some x_int) (.m (j := 0) rfl)) ?_) a_nil) (c_tupP (.d _))) (fun z hz => ?_) fin
    · exact congrArg (fun z => Ent.d (.list z)) (cutD_to8 _)
    · rw [List.mem_singleton.mp hz]; exact List.mem_cons_of_mem _ List.mem_cons_self
end
end K02
namespace K02
open PySem L2 FD Evl
section
variable {C : Cfg} {M : List Addr} {δ : List Ent} {μ μ1 : Mem} {te : TE} {t2 : TS} {D : Ends} {i j : Nat} {e1 : Ent}
theorem q_parEN (h : EvX C te M δ μ μ1 e1) (k : ∀ p, p ∉ M → FD.Run C t2 D (p :: M) ((δ.set i e1).set j (.m p)) ((p, .lst []) :: μ1)) : FD.Run C (tSeq (tPar i j (tCons te (tCons (tLst tNil) tNil))) t2) D M δ μ := fun σ H o =>
  h σ H o _ fun v H1 o1 x1 r1 => ⟨sz_of (by simp), fun p hp => by
    have o2 := o1.new hp (mo := .lst []) (ho := .lst []) ⟨[], upd_same, .nil⟩
    exact ⟨v, .ref p, rfl, k p (o1.fresh hp) _ _ ((o2.set i (EntOk.mono (hide_new hp) r1)).set j (e := .m p) rfl)⟩⟩
end
section
variable {C : Cfg} {M : List Addr} {μ : Mem} {a : Addr} {ks : List (List Str)} {d2 : PyData} {j : Nat} {δ : List Ent}
theorem o_neLr (hj : μ[j]? = some (a, .lr ks)) (s1 : SeqAt.shaped (.list (ks.map rowD)) = true) (s2 : SeqAt.shaped d2 = true) : OpX C (rNeD C.K) M δ μ μ (.m a) (.d d2) (.d (.bool (!PyData.eqv (.list (ks.map rowD)) d2))) := fun σ H x y o h1 h2 Q k => by
  have e1 : x = .ref a := h1
  subst e1
  obtain ⟨_, _, vs, q2, q3⟩ := o.mem _ (List.mem_of_getElem? hj)
  exact ⟨_, d2, .lst (SqL.of q2) (dpAll_mono hide_le _ _ (prows_dp q3)), (Rdd.d (μ := μ) d2).dp o h2, s1, s2, k _ H o (Ex.refl _) (.bl _)⟩
end
theorem comA_few {rs : List (List Str)} (h : CAok rs) (h6 : remA rs ≤ 6) : (comA rs).length ≤ 32 := by
  have n := (comA_ok h).num
  rw [remA_eq rs] at n
  have g : ∀ n ≤ 6, gB n ≤ 32 := by decide
  exact Nat.le_trans n (g _ h6)
theorem ixN0 (n : Nat) : ixN (n + 1) 0 = some 0 := by
  unfold ixN
  simp
theorem sql_hide2 {K : PySem.W.Frag} {H : Hp} {a t u : Addr} {vs : List V} {q q' : Array Value} (hne : t ≠ u) (ht : H t = some (.tbl q)) (hu : H u = some (.tbl q')) (h : SqL K H a vs) : SqL K (hide [t, u] H) a vs := by
  have h1 := sql_hide hu h
  have ht' : hide [u] H t = some (.tbl q) := by rw [hide_out (by simpa using hne)]; exact ht
  have e : hide [t] (hide [u] H) = hide [t, u] H := by
    funext b
    unfold hide
    by_cases z : b = t <;> by_cases z' : b = u <;> simp [z, z']
  rw [← e]
  exact sql_hide ht' h1
def spLawT (K : PySem.W.Frag) (Tb Tb2 : Addr) : Sp := fun vs H Q _ => ∃ (a : Addr) (ns : List Int), vs = [.ref a] ∧ SqL K H a (ns.map V.int) ∧ ns.length ≤ 63 ∧ H Tb = some (.tbl #[]) ∧ H Tb2 = some (.tbl #[]) ∧ ∀ H', Q (.bl true) H'
theorem dp_ints {K : PySem.W.Frag} {H : Hp} : ∀ ns : List Int, DpAll K H (ns.map V.int) (ns.map PyData.int)
  | [] => .nil
  | n :: ns => .cons (.int n) (dp_ints ns)
section
variable {P : Program} {w : World} {K : PySem.W.Frag} {mg : Str → Option Value} {base : Heap}
abbrev nLw : List Str := ["_law_script", "_law_k", "_law_box_here", "_law_names_here", "_law_turn", "_law_rows", "_law_handed", "_law_told", "_law_first"]
theorem scLw : FnScope nLw ["_law_script"] (defScope sLw) := ⟨rfl, rfl, rfl, by decide +kernel, rfl, by decide +kernel, by decide +kernel⟩
theorem ok_lw {Cx Sx fI c Tb c2 Tb2 : Addr} {f : Addr} {fd : FuncData} (T : Txt mg) (TE : PySem.ErrRef.ErrTxt K mg P Cx fI) (XC : ExcC K Cx) (hS : mg "StillError" = some (.ref Sx)) (kS : PySem.W.kitOne K (.ref Cx) (.ref Sx) = some true) (kV : PySem.W.kitOne K (.ref Cx) (.type "ValueError") = some true) (TB : LamX.TabB base mg c Tb) (TB2 : LamX.TabB base mg c2 Tb2) (hne : Tb ≠ Tb2)
    (F : Fun K "law" "law" sLw f fd) {aFf aWi aIo aGr aPb aCb aCa aCo aBx aTk aPk aLe aNa aRo aCh aLi aIa aSa aRi aSd aBd aXr : Addr} {dFf dWi dIo dGr dPb dCb dCa dCo dBx dTk dPk dLe dNa dRo dCh dLi dIa dSa dRi dSd dBd dXr : FuncData} (HFf : Has K mg "first_fit" sFf ["u", "v"] aFf dFf) (HWi : Has K mg "within" sWi ["u", "v"] aWi dWi) (HIo : Has K mg "in_order" sIo ["rows"] aIo dIo) (HGr : Has K mg "greatest_rows" sGr ["rows"] aGr dGr) (HPb : Has K mg "places_behind" sPb ["rows", "places", "deed"] aPb dPb) (HCb : Has K mg "common_behind" sCb ["rows", "places", "known"] aCb dCb) (HCa : Has K mg "common_all" sCa ["rows"] aCa dCa) (HCo : Has K mg "common" sCo ["u", "v"] aCo dCo) (HBx : Has K mg "_law_box" sBx ["_law_script", "_law_k"] aBx dBx) (HTk : Has K mg "_law_take" sTk ["_law_box_here", "_law_many"] aTk dTk) (HPk : Has K mg "_law_pick" sPk ["_law_box_here", "_law_some"] aPk dPk) (HLe : Has K mg "_law_letter" sLe ["_law_box_here"] aLe dLe) (HNa : Has K mg "_law_names" sNa ["_law_box_here", "_law_many"] aNa dNa) (HRo : Has K mg "_law_row" sRo ["_law_box_here", "_law_names_here", "_law_most"] aRo dRo) (HCh : Has K mg "_law_changed" sCh ["_law_box_here", "_law_row_here", "_law_names_here"] aCh dCh) (HLi : Has K mg "_law_lies_in" sLi ["_law_u", "_law_v"] aLi dLi) (HIa : Has K mg "_law_in_all" sIa ["_law_row_here", "_law_rows"] aIa dIa) (HSa : Has K mg "_law_all_struck" sSa ["_law_row_here"] aSa dSa) (HRi : Has K mg "_law_right" sRi ["_law_told", "_law_rows"] aRi dRi) (HSd : Has K mg "_law_said" sSd ["_law_work"] aSd dSd) (HBd : Has K mg "_law_bound_right" sBd ["_law_name", "_law_other", "_law_many"] aBd dBd) (HXr : Has K mg "_law_exchanged_right" sXr ["_law_box_here"] aXr dXr)
    (hcd : dRi.code = .ref c) (hcd2 : dBd.code = .ref c2) (KCa : KBn K dCa ["rows"] 0 ["rows"] (fun _ ws => ws.reverse) (fun _ zs => zs.reverse)) (KCo : KBn K dCo ["u", "v"] 0 ["u", "v"] (fun _ ws => ws) (fun _ zs => zs)) :
    FnOk P w K mg base CX0 22 f fd ["_law_script"] (spLawT K Tb Tb2) := by
  have GBx : FnOk P w K mg base CX0 1 aBx dBx ["_law_script", "_law_k"] (spN K 2 Rbx) := ok_bx T HBx.F
  have GTk : FnOk P w K mg base CX0 1 aTk dTk ["_law_box_here", "_law_many"] (spW K 2 Rtk) := ok_tk T HTk.F
  have GNa : FnOk P w K mg base CX0 3 aNa dNa ["_law_box_here", "_law_many"] (spX K 2 Pna Qna) := ok_na T HNa.F HTk HLe HPk
  have GRo : FnOk P w K mg base CX0 3 aRo dRo ["_law_box_here", "_law_names_here", "_law_most"] (spG K 3 Rro) := ok_ro T HRo.F HTk HPk
  have GCh : FnOk P w K mg base CX0 3 aCh dCh ["_law_box_here", "_law_row_here", "_law_names_here"] (spG K 3 Rch) := ok_ch T HCh.F HTk HPk
  have GCa : FnOk P w K mg base (L2.CX P w) 17 aCa dCa ["rows"] (spEX K 1 Rca Cx "word" Rcx) := ok_ca T TE HCa.F HCb HPb HGr HIo HWi HFf
  have GCo : FnOk P w K mg base (L2.CX P w) 18 aCo dCo ["u", "v"] (spEX K 2 Rco Cx "word" Rox) := ok_co T TE HCo.F HCa HCb HPb HGr HIo HWi HFf
  have GRi : FnOk P w K mg base CX0 3 aRi dRi ["_law_told", "_law_rows"] (spE K 2 (Rri Tb)) := ok_ri T HRi.F TB hcd HLi HIa HSa
  have GBd : FnOk P w K mg base CX0 21 aBd dBd ["_law_name", "_law_other", "_law_many"] (spE K 3 (Rbd Tb2)) := ok_bd T TE XC hS kS kV HBd.F TB2 hcd2 HSd HCo HCa GCo GCa
  have GXr : FnOk P w K mg base CX0 19 aXr dXr ["_law_box_here"] (spE K 1 Rxr) := ok_xr T TE HXr.F HTk HCo HCa GCo GCa
  refine F.ok scLw (fun vs H Q E hs => ?_) fun cdv A outer s H vs Q E hr hs => ?_
  · obtain ⟨a, ns, rfl, _⟩ := hs
    rfl
  obtain ⟨a, ns, rfl, hS0, hlen, hTb, hTb2, kk⟩ := hs
  have nd := scLw.nd
  have hr1 : Room 1 _ := hr.mono (by decide)
  have hr3 : Room 3 _ := hr.mono (by decide)
  have hr17 : Room 17 _ := hr.mono (by decide)
  have hr18 : Room 18 _ := hr.mono (by decide)
  have hr19 : Room 19 _ := hr.mono (by decide)
  have hr21 : Room 21 _ := hr.mono (by decide)
  refine ⟨_, (pss_cons (ps_for PassesOwn.never rfl (pi_range1 (by rfl) T.range (pa_cons pe_int pa_nil)) (pg_name (i := 1) nd rfl (Or.inl rfl)) (pss_cons (ps_set (i := 2) nd rfl (Or.inl rfl) (pe_call GBx hr1 rfl HBx.m HBx.F.kp HBx.b .nil pass0 (pa_cons (pv 0) (pa_cons (pv 1) pa_nil))))
 (pss_cons (ps_set (i := 3) nd rfl (Or.inl rfl) (pe_call GNa hr3 rfl HNa.m HNa.F.kp HNa.b .nil pass0 (pa_cons (pv 2) (pa_cons (pe_op op_add pe_int (pe_call GTk hr1 rfl HTk.m HTk.F.kp HTk.b .nil pass0 (pa_cons (pv 2) (pa_cons pe_int pa_nil)))) pa_nil))))
 (pss_cons (ps_par (i := 8) (j := 5) (by rfl) nd rfl rfl (by decide) rfl rfl (pa_cons (pe_call GRo hr3 rfl HRo.m HRo.F.kp HRo.b .nil pass0 (pa_cons (pv 2) (pa_cons (pv 3) (pa_cons pe_int pa_nil)))) (pa_cons (pe_lst pa_nil) pa_nil)) (by rfl))
 (pss_cons (ps_for PassesOwn.never rfl (pi_range1 (by rfl) T.range (pa_cons (pe_op op_add pe_int (pe_call GTk hr1 rfl HTk.m HTk.F.kp HTk.b .nil pass0 (pa_cons (pv 2) (pa_cons pe_int pa_nil)))) pa_nil)) (pg_name (i := 4) nd rfl (Or.inl rfl)) (pss_one (ps_expr (pe_bm PySem.F.plainAttrs_list PySem.F.slot_list_append PySem.F.type_list_append mt_append (pv 5) (pa_cons (pe_ifExp (pt_cmpR (op_eqD hr.units) (pe_call GTk hr1 rfl HTk.m HTk.F.kp HTk.b .nil pass0 (pa_cons (pv 2) (pa_cons pe_int pa_nil))) pe_int (nomark _)) (pe_call GCh hr3 rfl HCh.m HCh.F.kp HCh.b .nil pass0 (pa_cons (pv 2) (pa_cons (pv 8) (pa_cons (pv 3) pa_nil)))) (pe_call GRo hr3 rfl HRo.m HRo.F.kp HRo.b .nil pass0 (pa_cons (pv 2) (pa_cons (pv 3) (pa_cons pe_int pa_nil))))) pa_nil)))))
 (pss_cons (ps_if (PW.pt (pw_and (pt_cmpR (op_neD hr.units) (pv 5) (pe_lst pa_nil) (nomark _)) (pw_and1 (pt_cmpR (op_eqD hr.units) (pe_call GTk hr1 rfl HTk.m HTk.F.kp HTk.b .nil pass0 (pa_cons (pv 2) (pa_cons pe_int pa_nil))) pe_int (nomark _))))) (pss_one (ps_asg (pe_op op_repF (pe_ix ix_list (pv 5) pe_int (fun _ _ => rfl)) (pe_op op_add pe_int (pe_call GTk hr1 rfl HTk.m HTk.F.kp HTk.b .nil pass0 (pa_cons (pv 2) (pa_cons pe_int pa_nil))))) (pg_sub (pv 5) pe_int set_list))) pss_nil)
 (pss_cons (ps_set (i := 5) nd rfl (Or.inl rfl) (pe_op op_catL (pe_lst (pa_cons (pv 8) pa_nil)) (pv 5)))
 (pss_cons (ps_set (i := 6) nd rfl (Or.inl rfl) (pe_callTy call_list_of (by rfl) T.list (by decide +kernel) (pa_cons (pv 5) pa_nil)))
 (pss_cons (ps_set (i := 7) nd rfl (Or.inl rfl) (pe_call GCa hr17 rfl HCa.m HCa.F.kp HCa.b .nil passNo (pa_cons (pv 6) pa_nil)))
 (pss_cons (ps_if (PW.pt (pw_or (pt_cmpR (op_neD hr.units) (pv 6) (pv 5) (nomark _)) (pw_or1 (pt_not (pt_val (pe_call GRi hr3 rfl HRi.m HRi.F.kp HRi.b .nil pass0 (pa_cons (pv 7) (pa_cons (pv 5) pa_nil)))))))) (pss_one (ps_ret pe_bl)) pss_nil)
 (pss_cons (ps_if (PW.pt (pw_or (pt_cmpR (op_neD hr.units) (pe_call GCa hr17 rfl HCa.m HCa.F.kp HCa.b .nil passNo (pa_cons (pe_op op_catA (pe_callTy call_tuple_of (by rfl) T.tuple (by decide +kernel) (pa_cons (pe_revL (pv 5)) pa_nil)) (pe_tup (pa_cons (pv 8) pa_nil))) pa_nil)) (pv 7) (nomark _)) (pw_or1 (pt_cmpR (op_neD hr.units) (pe_callN0 GCa hr17 rfl HCa.m HCa.F.kp KCa passNo (pk_cons (pe_op op_catL (pv 5) (pe_slice sl_list (pv 5) po_none (po_some pe_int))) pk_nil)) (pv 7) (nomark _))))) (pss_one (ps_ret pe_bl)) pss_nil)
 (pss_cons (ps_if (pt_not (pt_val (pe_call GRi hr3 rfl HRi.m HRi.F.kp HRi.b .nil pass0 (pa_cons (pe_call GCo hr18 rfl HCo.m HCo.F.kp HCo.b .nil passNo (pa_cons (pv 8) (pa_cons (pe_ix ix_list (pv 5) (pe_op op_sub (pe_callB call_len_seq (by rfl) T.len PySem.boot_len (pa_cons (pv 5) pa_nil)) pe_int) (fun _ _ => rfl)) pa_nil))) (pa_cons (pe_lst (pa_cons (pv 8) (pa_cons (pe_ix ix_list (pv 5) (pe_op op_sub (pe_callB call_len_seq (by rfl) T.len PySem.boot_len (pa_cons (pv 5) pa_nil)) pe_int) (fun _ _ => rfl)) pa_nil))) pa_nil))))) (pss_one (ps_ret pe_bl)) pss_nil)
 (pss_cons (ps_if (pt_cmpR (op_neD hr.units) (pe_callN0 GCo hr18 rfl HCo.m HCo.F.kp KCo passNo (pk_cons (pe_ix ix_list (pv 5) (pe_op op_sub (pe_callB call_len_seq (by rfl) T.len PySem.boot_len (pa_cons (pv 5) pa_nil)) pe_int) (fun _ _ => rfl)) (pk_cons (pv 8) pk_nil))) (pe_call GCo hr18 rfl HCo.m HCo.F.kp HCo.b .nil passNo (pa_cons (pv 8) (pa_cons (pe_ix ix_list (pv 5) (pe_op op_sub (pe_callB call_len_seq (by rfl) T.len PySem.boot_len (pa_cons (pv 5) pa_nil)) pe_int) (fun _ _ => rfl)) pa_nil))) (nomark _)) (pss_one (ps_ret pe_bl)) pss_nil)
 (pss_cons (ps_if (PW.pt (pw_and (pt_cmpR (op_eqD hr.units) (pe_call GTk hr1 rfl HTk.m HTk.F.kp HTk.b .nil pass0 (pa_cons (pv 2) (pa_cons pe_int pa_nil))) pe_int (nomark _)) (pw_and1 (pt_not (pt_val (pe_call GBd hr21 rfl HBd.m HBd.F.kp HBd.b .nil pass0 (pa_cons (pe_ix ix_list (pv 3) pe_int (fun _ _ => rfl)) (pa_cons (pe_ix ix_list (pv 3) pe_int (fun _ _ => rfl)) (pa_cons (pe_op op_add pe_int (pe_call GTk hr1 rfl HTk.m HTk.F.kp HTk.b .nil pass0 (pa_cons (pv 2) (pa_cons pe_int pa_nil)))) pa_nil))))))))) (pss_one (ps_ret pe_bl)) pss_nil)
 (pss_one (ps_if (PW.pt (pw_and (pt_cmpR (op_eqD hr.units) (pe_call GTk hr1 rfl HTk.m HTk.F.kp HTk.b .nil pass0 (pa_cons (pv 2) (pa_cons pe_int pa_nil))) pe_int (nomark _)) (pw_and1 (pt_not (pt_val (pe_call GXr hr19 rfl HXr.m HXr.F.kp HXr.b .nil pass0 (pa_cons (pv 2) pa_nil))))))) (pss_one (ps_ret pe_bl)) pss_nil))))))))))))))))
 (pss_one (ps_ret pe_bl))), ?_⟩
  have hS1 : SqL K (hide [Tb, Tb2] H) a (ns.map V.int) := sql_hide2 hne hTb hTb2 hS0
  suffices hrun : ∀ D : Ends, FinE ⟨K, [Tb, Tb2], hide [Tb, Tb2] H, hide [Tb, Tb2] H⟩ D (.bool true) [(Tb, .tb qRi), (Tb2, .tb qBd)] → FD.Run ⟨K, [Tb, Tb2], hide [Tb, Tb2] H, hide [Tb, Tb2] H⟩ _ D [Tb, Tb2] (startE nLw.length 1 [.d (.list (ns.map .int))]) [(Tb, .tb qRi), (Tb2, .tb qBd)] by
    refine hrun _ (fun v M' H' _ _ _ r => ?_) _ _ (ok_startE (μ := [(Tb, .tb qRi), (Tb2, .tb qBd)]) (es := [.d (.list (ns.map .int))]) (fun b hb z => ?_) (.cons (show Dp K _ _ _ from .lst hS1 (dp_ints ns)) .nil) (fun p hp => ?_) (by simp [ad, hne]) (by show 1 ≤ 9; decide))
    · rw [Dp.bool_of r]
      exact kk _
    · rcases List.mem_cons.mp hb with rfl | hb
      · rw [hTb] at z; cases z
      · rw [List.mem_singleton.mp hb, hTb2] at z; cases z
    · rcases List.mem_cons.mp hp with rfl | hp
      · exact ⟨List.mem_cons_self, #[], hTb, trivial, fun pos cv e => by cases e⟩
      · rw [List.mem_singleton.mp hp]
        exact ⟨List.mem_cons_of_mem _ List.mem_cons_self, #[], hTb2, trivial, fun pos cv e => by cases e⟩
  intro D fin
  show FD.Run _ _ D [Tb, Tb2] [.d (.list (ns.map .int)), .u, .u, .u, .u, .u, .u, .u, .u] [(Tb, .tb qRi), (Tb2, .tb qBd)]
  refine q_for (i_rng1 (a_cons x_int a_nil) (by decide) (by decide))
    (fun i δ μ => ∃ e1 e2 e3 e4 e5 e6 e7 e8, δ = [.d (.list (ns.map .int)), e1, e2, e3, e4, e5, e6, e7, e8] ∧ μ = [(Tb, .tb qRi), (Tb2, .tb qBd)]) ⟨_, _, _, _, _, _, _, _, rfl, rfl⟩ ?_ ?_
  · rintro B' hB i d δ1 μ1 hi ⟨e1, e2, e3, e4, e5, e6, e7, e8, rfl, rfl⟩
    obtain ⟨hi3, rfl⟩ : i < 3 ∧ d = .int (i : Int) := by
      have hl := (List.getElem?_eq_some_iff.mp hi).1
      rw [rngD_length] at hl
      rw [rngD_get hl, Int.zero_add] at hi
      exact ⟨hl, (Option.some.inj hi).symm⟩
    refine ⟨[1], _, tg_name, ?_⟩
    show FD.Run _ _ _ _ [.d (.list (ns.map .int)), .d (.int (i : Int)), e2, e3, e4, e5, e6, e7, e8] _
    refine q_asgN (ds := [.list (ns.map .int), .int (i : Int)]) (es := (bxOf ns i).ds) (a_cons (x_vd rfl) (a_cons (x_vd rfl) a_nil)) ⟨ns, i, rfl, by omega, rfl⟩ fun p hp => ?_
    show FD.Run _ _ _ _ [.d (.list (ns.map .int)), .d (.int (i : Int)), .m p, e3, e4, e5, e6, e7, e8] [(p, .lst (bxOf ns i).ds), (Tb, .tb qRi), (Tb2, .tb qBd)]
    generalize bxOf ns i = b0
    have hv3 := tkV_lt (b := b0) (n := 3) (by decide)
    obtain ⟨c, hc⟩ : ∃ c : Nat, 2 + tkV b0 3 = (c : Int) := ⟨(2 + tkV b0 3).toNat, by omega⟩
    have hc1 : 2 ≤ c ∧ c ≤ 4 := by omega
    refine q_asgXG (μ0 := [(p, .lst (tkB b0 3).ds)]) (a_cons (x_vm rfl) (a_cons (x_is (e1 := .d (.int (c : Int))) (x_op x_int (x_takeJ 0 (x_vm rfl) x_int rfl (by decide) (by decide)) o_I0) (by rw [hc])) a_nil)) (fun q hq => by rw [List.mem_singleton.mp hq]; exact List.mem_cons_self) (fun h => by simp [ad]) ⟨p, c, tkB b0 3, rfl, rfl, hc1.2⟩ fun ndμ dd μ0' hq had => ?_
    obtain ⟨l, b1, rfl, hll, hlw, hln, rfl⟩ := hq p c (tkB b0 3) rfl rfl
    refine ⟨_, _, _, swap_set (j := 0) rfl ndμ, tg_name, ?_⟩
    show FD.Run _ _ _ _ [.d (.list (ns.map .int)), .d (.int (i : Int)), .m p, .d (.list (l.map .str)), e4, e5, e6, e7, e8] [(p, .lst b1.ds), (Tb, .tb qRi), (Tb2, .tb qBd)]
    have l0 : 0 < l.length := by omega
    have l4 : l.length ≤ 4 := by omega
    refine q_parEN (e1 := .p (rowV b1 l 6)) (x_callG1 0 (a_cons (x_vm rfl) (a_cons (x_vd rfl) (a_cons x_int a_nil))) (fun σ H o => o.nd) rfl ⟨p, b1, l, 6, rfl, rfl, l0, by omega, by decide, rfl, rfl⟩) fun f hf => run_lr0 ?_
    have hfl := rowV_len b1 l 6
    have hfm : ∀ x ∈ rowV b1 l 6, x ∈ l := rowV_mem l0
    show FD.Run _ _ _ _ [.d (.list (ns.map .int)), .d (.int (i : Int)), .m p, .d (.list (l.map .str)), e4, .m f, e6, e7, .p (rowV b1 l 6)] [(f, .lr []), (p, .lst (rowB b1 l 6).ds), (Tb, .tb qRi), (Tb2, .tb qBd)]
    generalize rowV b1 l 6 = fr at hfl hfm ⊢
    generalize rowB b1 l 6 = b2
    have sz : ∀ x : Int, SeqAt.shaped (.int x) = true := fun x => (shp_int 0 x).shaped (by decide)
    have hv4 := tkV_lt (b := b2) (n := 4) (by decide)
    obtain ⟨k, hk⟩ : ∃ k : Nat, 1 + tkV b2 4 = (k : Int) := ⟨(1 + tkV b2 4).toNat, by omega⟩
    have hk1 : 1 ≤ k ∧ k ≤ 4 := by omega
    have lk : (rngD 0 ((k : Int)).toNat).length = k := by rw [rngD_length, Int.toNat_natCast]
    refine q_for (i_rng1 (n := (k : Int)) (a_cons (x_is (x_op x_int (x_takeJ 1 (x_vm rfl) x_int rfl (by decide) (by decide)) o_I0) (by rw [hk])) a_nil) (by omega) (by omega))
      (fun j δ μ => ∃ (R : List (List Str)) (b : Box) (e4 : Ent), δ = [.d (.list (ns.map .int)), .d (.int (i : Int)), .m p, .d (.list (l.map .str)), e4, .m f, e6, e7, .p fr] ∧ μ = [(f, .lr R), (p, .lst b.ds), (Tb, .tb qRi), (Tb2, .tb qBd)] ∧ R.length = j ∧ ∀ r ∈ R, r.length ≤ 8 ∧ ∀ x ∈ r, x ∈ l) ⟨[], _, _, rfl, rfl, rfl, fun r hr => nomatch hr⟩ ?_ ?_
    · rintro B'' hB2 j d δ1 μ1 hj ⟨R, b3, e4', rfl, rfl, hRl, hR⟩
      have hjk : j < k := by have := (List.getElem?_eq_some_iff.mp hj).1; rwa [lk] at this
      refine ⟨[4], _, tg_name, ?_⟩
      show FD.Run _ _ _ _ [.d (.list (ns.map .int)), .d (.int (i : Int)), .m p, .d (.list (l.map .str)), .d d, .m f, e6, e7, .p fr] [(f, .lr R), (p, .lst b3.ds), (Tb, .tb qRi), (Tb2, .tb qBd)]
      obtain ⟨r1, b4, h1, h2, h3, h4⟩ : ∃ (r1 : List Str) (b4 : Box), (tkV b3 2 = 0 → r1 = chV (tkB b3 2) fr l ∧ b4 = chB (tkB b3 2) fr l) ∧ (tkV b3 2 ≠ 0 → r1 = rowV (tkB b3 2) l 8 ∧ b4 = rowB (tkB b3 2) l 8) ∧ r1.length ≤ 8 ∧ ∀ x ∈ r1, x ∈ l := by
        by_cases z : tkV b3 2 = 0
        · exact ⟨_, _, fun _ => ⟨rfl, rfl⟩, fun y => absurd z y, chV_len _ _ _, fun x hx => (chV_mem l0 x hx).elim (hfm x) id⟩
        · exact ⟨_, _, fun y => absurd y z, fun _ => ⟨rfl, rfl⟩, rowV_len _ _ _, rowV_mem l0⟩
      refine r_appLr (k := r1) (μ2 := [(f, .lr R), (p, .lst b4.ds), (Tb, .tb qRi), (Tb2, .tb qBd)]) (j := 0) (x_vm rfl) (x_if (b := decide (tkV b3 2 = 0)) (t_is (t_test (x_op (x_takeJ 1 (x_vm rfl) x_int rfl (by decide) (by decide)) x_int (o_eqD (.d _) (.d _) (sz _) (sz _)))) (by rw [eqv_int]; exact Bool.beq_eq_decide_eq _ _)) (fun h => ?_) (fun h => ?_)) rfl rfl (by omega) ?_
      · obtain ⟨rfl, rfl⟩ := h1 (of_decide_eq_true h)
        exact x_callG1 1 (a_cons (x_vm rfl) (a_cons (x_vp rfl) (a_cons (x_vd rfl) a_nil))) (fun σ H o => o.nd) rfl ⟨p, tkB b3 2, fr, l, rfl, rfl, l0, by omega, by omega, rfl, rfl⟩
      · obtain ⟨rfl, rfl⟩ := h2 (of_decide_eq_false h)
        exact x_callG1 1 (a_cons (x_vm rfl) (a_cons (x_vd rfl) (a_cons x_int a_nil))) (fun σ H o => o.nd) rfl ⟨p, tkB b3 2, l, 8, rfl, rfl, l0, by omega, by decide, rfl, rfl⟩
      · refine nx_of (D := D) ⟨R ++ [r1], b4, _, rfl, rfl, by rw [List.length_append]; show R.length + 1 = j + 1; omega, fun r hr => (List.mem_append.mp hr).elim (hR r) fun z => ?_⟩
        rw [List.mem_singleton.mp z]; exact ⟨h3, h4⟩
    rintro δ1 μ1 ⟨R, b3, e4', rfl, rfl, hRl, hR⟩
    rw [lk] at hRl
    have shE : SeqAt.shaped (.list []) = true := (shp_nil 0).shaped (by decide)
    have shR : ∀ R : List (List Str), (∀ r ∈ R, Good r) → SeqAt.shaped (.list (R.map rowD)) = true := fun R h => (shp_list (shp_rows h)).shaped (by decide)
    have gl : ∀ r : List Str, (∀ x ∈ r, x ∈ l) → Good r := fun r h x hx => (hlw x (h x hx)).tok
    obtain ⟨r0, R1, rfl⟩ : ∃ r0 R1, R = r0 :: R1 := by
      cases R with
      | nil => have e : 0 = k := hRl; omega
      | cons a r => exact ⟨a, r, rfl⟩
    have hv3' := tkV_lt (b := b3) (n := 3) (by decide)
    have hv2 := tkV_lt (b := tkB b3 3) (n := 2) (by decide)
    obtain ⟨m, hm⟩ : ∃ m : Nat, 2 + tkV (tkB b3 3) 2 = (m : Int) := ⟨(2 + tkV (tkB b3 3) 2).toNat, by omega⟩
    have hm1 : 2 ≤ m ∧ m ≤ 3 := by omega
    have hr0 := hR r0 List.mem_cons_self
    show FD.Run _ _ _ _ [.d (.list (ns.map .int)), .d (.int (i : Int)), .m p, .d (.list (l.map .str)), e4', .m f, e6, e7, .p fr] [(f, .lr (r0 :: R1)), (p, .lst b3.ds), (Tb, .tb qRi), (Tb2, .tb qBd)]
    refine q_whenJ (b := decide (tkV b3 3 = 0)) (fun δ μ => ∃ (R : List (List Str)) (b : Box), δ = [.d (.list (ns.map .int)), .d (.int (i : Int)), .m p, .d (.list (l.map .str)), e4', .m f, e6, e7, .p fr] ∧ μ = [(f, .lr R), (p, .lst b.ds), (Tb, .tb qRi), (Tb2, .tb qBd)] ∧ R.length = k ∧ ∀ r ∈ R, r.length ≤ 24 ∧ ∀ x ∈ r, x ∈ l)
      (t_is (t_and (b := true) (c := decide (tkV b3 3 = 0)) (t_is (t_test (x_op (x_vm rfl) (x_lst (ds := []) a_nil (Nat.zero_le _)) (o_neLr (j := 0) rfl (shR _ fun r hr => gl r (hR r hr).2) shE))) (by rw [eqv_empty]; rfl)) (fun _ => t_is (t_test (x_op (x_takeJ 1 (x_vm rfl) x_int rfl (by decide) (by decide)) x_int (o_eqD (.d _) (.d _) (sz _) (sz _)))) (by rw [eqv_int]; exact Bool.beq_eq_decide_eq _ _)) (fun h => nomatch h)) rfl) (fun hb D' kk => ?_) (fun hb => ⟨r0 :: R1, tkB b3 3, rfl, rfl, hRl, fun r hr => ⟨by have := (hR r hr).1; omega, (hR r hr).2⟩⟩) ?_
    · refine r_setLr (j := 0) (n := 0) (i := 0) (x_op (x_op (x_vm rfl) x_int (o_ixMr (n := 0) (j := 0) (k := r0) rfl rfl)) (x_is (x_op x_int (x_takeJ 1 (x_vm rfl) x_int rfl (by decide) (by decide)) o_I0) (by rw [hm])) (o_repP (k := r0) (n := m) (by omega) (by omega) (by omega))) (x_vm rfl) x_int rfl (ixN0 _) (kk _ _ ⟨_, _, rfl, rfl, hRl, fun r hr => ?_⟩)
      rcases List.mem_cons.mp hr with rfl | hr
      · refine ⟨?_, fun x hx => ?_⟩
        · rw [List.length_flatten, List.map_replicate, List.sum_replicate_nat]
          exact Nat.le_trans (Nat.mul_le_mul hm1.2 hr0.1) (by decide)
        · obtain ⟨y, hy, hx⟩ := List.mem_flatten.mp hx
          rw [List.eq_of_mem_replicate hy] at hx
          exact hr0.2 x hx
      · have := hR r (List.mem_cons_of_mem _ hr)
        exact ⟨by omega, this.2⟩
    clear hR hr0 hRl
    rintro δ1 μ1 ⟨R, b4, rfl, rfl, hRl, hR⟩
    refine run_settleLr (ks := R) (i := 5) hf (fun a ha => List.mem_cons_of_mem _ ha) rfl ?_
    obtain ⟨W, hW⟩ : ∃ W, W = fr :: R := ⟨_, rfl⟩
    have hWl : W.length = k + 1 := by rw [hW, List.length_cons, hRl]
    have hWm : ∀ r ∈ W, r.length ≤ 24 ∧ ∀ x ∈ r, x ∈ l := fun r hr => by
      rw [hW] at hr
      rcases List.mem_cons.mp hr with rfl | hr
      · exact ⟨by omega, hfm⟩
      · exact hR r hr
    have hWg : ∀ r ∈ W, Good r := fun r hr => gl r (hWm r hr).2
    have hWr : ∀ r ∈ W, Good r ∧ r.length ≤ 100 := fun r hr => ⟨hWg r hr, by have := (hWm r hr).1; omega⟩
    have frW : fr ∈ W := by rw [hW]; exact List.mem_cons_self
    have w0 : W[0]? = some fr := by rw [hW]; rfl
    have cW : CAok W := ⟨⟨by rw [hW]; exact List.cons_ne_nil _ _, by omega, hWr⟩, .inl (Nat.le_trans (remA_le frW) hfl)⟩
    obtain ⟨la, hla⟩ : ∃ la, W[k]? = some la := ⟨_, List.getElem?_eq_getElem (by omega)⟩
    have laW := List.mem_of_getElem? hla
    have rok : ∀ rs, CAok rs → fr ∈ rs → Rok (comA rs) := fun rs c hf =>
      { good := fun r hr => have s := (comA_best c).com r hr fr hf; ⟨fun z hz => hWg fr frW z (s.subset hz), by have := s.length_le; omega⟩
        len := by have := comA_few c (Nat.le_trans (remA_le hf) hfl); omega }
    have hPr : ∀ r ∈ [fr, la], Good r ∧ r.length ≤ 100 := fun r hr => by
      rcases List.mem_cons.mp hr with rfl | hr
      · exact hWr _ frW
      · rw [List.mem_singleton.mp hr]; exact hWr _ laW
    have cP : CAok [fr, la] := ⟨⟨List.cons_ne_nil _ _, by show 2 ≤ 40; decide, hPr⟩, .inl (Nat.le_trans (remA_le List.mem_cons_self) hfl)⟩
    have swP : ∀ x, x ∈ [fr, la] ↔ x ∈ [la, fr] := fun x => by simp [or_comm]
    have cP' : CAok [la, fr] := ca_eq swP (by show 2 ≤ 40; decide) cP
    have eP : comA [la, fr] = comA [fr, la] := (comA_eq swP).symm
    have hm1 : ∀ x, x ∈ W ↔ x ∈ W.reverse ++ [fr] := fun x => ⟨fun h => List.mem_append_left _ (List.mem_reverse.mpr h), fun h => (List.mem_append.mp h).elim List.mem_reverse.mp fun z => by rw [List.mem_singleton.mp z]; exact frW⟩
    have hm2 : ∀ x, x ∈ W ↔ x ∈ W ++ W.take 1 := fun x => ⟨List.mem_append_left _, fun h => (List.mem_append.mp h).elim id List.mem_of_mem_take⟩
    have c1 : CAok (W.reverse ++ [fr]) := ca_eq hm1 (by rw [List.length_append, List.length_reverse]; show W.length + 1 ≤ 40; omega) cW
    have c2' : CAok (W ++ W.take 1) := ca_eq hm2 (by rw [List.length_append, List.length_take]; omega) cW
    have gT : ∀ rs, CAok rs → fr ∈ rs → SeqAt.shaped (.tuple ((comA rs).map rowD)) = true := fun rs c hf => rowt_sh fun r hr => ((rok rs c hf).good r hr).1
    have gW := gT W cW frW
    have gP := gT _ cP List.mem_cons_self
    have hkl : Ent.d (.int (((W.map rowD).length : Int) - 1)) = .d (.int (k : Int)) := by rw [List.length_map, hWl, show ((k + 1 : Nat) : Int) - 1 = (k : Int) by omega]
    refine q_asg (e := .lr W) (x_is (x_op (x_lstR (ks := [fr]) (a_cons (x_vp rfl) a_nil) (by simp)) (x_vlr rfl) (o_catLr (by show 1 + R.length ≤ 100000; omega))) (by rw [hW]; rfl)) ?_
    refine q_asg (e := .lr W) (x_cbP (a_cons (x_vlr rfl) a_nil) c_listLr) ?_
    refine q_asg (e := .d (.tuple ((comA W).map rowD))) (x_callEX0 (a_cons (x_vlr rfl) a_nil) ⟨_, W, rfl, .inr rfl, rfl, rfl, cW, rfl⟩) ?_
    show FD.Run _ _ _ _ [.d (.list (ns.map .int)), .d (.int (i : Int)), .m p, .d (.list (l.map .str)), e4', .lr W, .lr W, .d (.tuple ((comA W).map rowD)), .p fr] [(p, .lst b4.ds), (Tb, .tb qRi), (Tb2, .tb qBd)]
    have mT : (Tb, MO.tb qRi) ∈ [(p, MO.lst b4.ds), (Tb, .tb qRi), (Tb2, .tb qBd)] := by simp
    refine q_when (b := false) (t_is (t_or (b := false) (c := false) (t_is (t_test (x_op (x_vlrd rfl) (x_vlrd rfl) (o_neD (.d _) (.d _) (shR W hWg) (shR W hWg)))) (by rw [eqv_rowsL]; simp)) (fun _ => t_is (t_not (t_B (x_callE1 (d := .bool true) (a := Tb) (mo := .tb qRi) (a_cons (x_vd rfl) (a_cons (x_vlrd rfl) a_nil)) mT ⟨comA W, W, rfl, rfl, rfl, comA_best cW, rok W cW frW, ⟨hWr, by omega⟩, ⟨fr, w0, hfl⟩, rfl⟩))) rfl) (fun z => by cases z)) rfl) (fun z => by cases z) fun _ => ?_
    refine q_when (b := false) (t_is (t_or (b := false) (c := false) (t_is (t_test (x_op (x_callEX0 (d := .tuple ((comA W).map rowD)) (a_cons (x_op (x_cbP (a_cons (x_revLr (x_vlr rfl)) a_nil) c_tupleLr) (x_tupR (ks := [fr]) (a_cons (x_vp rfl) a_nil) (by simp)) (o_catRw (by rw [List.length_reverse]; show W.length + 1 ≤ 100000; omega))) a_nil) ⟨_, W.reverse ++ [fr], rfl, .inl rfl, rfl, rfl, c1, by rw [comA_eq hm1]⟩) (x_vd rfl) (o_neD (.d _) (.d _) gW gW))) (by rw [eqv_rowsT]; simp))
      (fun _ => t_is (t_test (x_op (x_callEXN0 (es := [.lr (W ++ W.take 1)]) (es' := [.lr (W ++ W.take 1)]) (d := .tuple ((comA W).map rowD)) (a_cons (x_op (x_vlr rfl) (x_slLr (n := 1) (x_vlr rfl) p_none (p_some x_int)) (o_catLr (by rw [List.length_take]; omega))) a_nil) (fun _ _ r => by cases r with | cons h t => cases t; exact .cons h .nil) ⟨_, W ++ W.take 1, rfl, .inr rfl, rfl, rfl, c2', by rw [comA_eq hm2]⟩) (x_vd rfl) (o_neD (.d _) (.d _) gW gW))) (by rw [eqv_rowsT]; simp)) (fun z => by cases z)) rfl) (fun z => by cases z) fun _ => ?_
    refine q_when (b := false) (t_is (t_not (t_B (x_callE1 (d := .bool true) (a := Tb) (mo := .tb qRi) (a_cons (x_callEX0 (d := .tuple ((comA [fr, la]).map rowD)) (a_cons (x_vp rfl) (a_cons (x_op (x_vlr rfl) (x_is (e1 := .d (.int (k : Int))) (x_op (x_cbP (a_cons (x_vlrd rfl) a_nil) (c_lenL (.d _))) x_int o_I0) hkl) (o_ixLr (n := k) hla)) a_nil)) ⟨fr, la, rfl, rfl, rfl, cP, rfl⟩) (a_cons (x_wlr (x_lstR (ks := [fr, la]) (a_cons (x_vp rfl) (a_cons (x_op (x_vlr rfl) (x_is (e1 := .d (.int (k : Int))) (x_op (x_cbP (a_cons (x_vlrd rfl) a_nil) (c_lenL (.d _))) x_int o_I0) hkl) (o_ixLr (n := k) hla)) a_nil)) (by simp))) a_nil)) mT ⟨comA [fr, la], [fr, la], rfl, rfl, rfl, comA_best cP, rok _ cP List.mem_cons_self, ⟨hPr, by show 2 ≤ 100; decide⟩, ⟨fr, rfl, hfl⟩, rfl⟩))) rfl) (fun z => by cases z) fun _ => ?_
    refine q_when (b := false) (t_is (t_test (x_op (x_callEXN0 (es := [.p la, .p fr]) (es' := [.p la, .p fr]) (d := .tuple ((comA [fr, la]).map rowD)) (a_cons (x_op (x_vlr rfl) (x_is (e1 := .d (.int (k : Int))) (x_op (x_cbP (a_cons (x_vlrd rfl) a_nil) (c_lenL (.d _))) x_int o_I0) hkl) (o_ixLr (n := k) hla)) (a_cons (x_vp rfl) a_nil)) (fun _ _ r => r) ⟨la, fr, rfl, rfl, rfl, cP', by rw [eP]⟩) (x_callEX0 (d := .tuple ((comA [fr, la]).map rowD)) (a_cons (x_vp rfl) (a_cons (x_op (x_vlr rfl) (x_is (e1 := .d (.int (k : Int))) (x_op (x_cbP (a_cons (x_vlrd rfl) a_nil) (c_lenL (.d _))) x_int o_I0) hkl) (o_ixLr (n := k) hla)) a_nil)) ⟨fr, la, rfl, rfl, rfl, cP, rfl⟩) (o_neD (.d _) (.d _) gP gP))) (by rw [eqv_rowsT]; simp)) (fun z => by cases z) fun _ => ?_
    obtain ⟨n0, n1, lr, rfl⟩ : ∃ n0 n1 lr, l = n0 :: n1 :: lr := by
      match l, hc1, hll with
      | a :: b :: r, _, _ => exact ⟨a, b, r, rfl⟩
      | [a], h, e => have e : 1 = c := e; omega
      | [], h, e => have e : 0 = c := e; omega
    have tk0 := (hlw n0 (by simp)).tok
    have tk1 := (hlw n1 (by simp)).tok
    have hv9 := tkV_lt (b := tkB b4 3) (n := 2) (by decide)
    obtain ⟨q, hq'⟩ : ∃ q : Nat, 12 + tkV (tkB b4 3) 2 = (q : Int) := ⟨(12 + tkV (tkB b4 3) 2).toNat, by omega⟩
    obtain ⟨b5, g1, g2⟩ : ∃ b5 : Box, (tkV b4 3 = 0 → b5 = tkB (tkB b4 3) 2) ∧ (tkV b4 3 ≠ 0 → b5 = tkB b4 3) := by
      by_cases z : tkV b4 3 = 0
      · exact ⟨_, fun _ => rfl, fun y => absurd z y⟩
      · exact ⟨_, fun y => absurd y z, fun _ => rfl⟩
    refine q_when (b := false) (μ' := [(p, .lst b5.ds), (Tb, .tb qRi), (Tb2, .tb qBd)]) ?_ (fun z => by cases z) fun _ => ?_
    · by_cases hz : tkV b4 3 = 0
      · obtain rfl := g1 hz
        exact t_is (t_and (b := true) (c := false) (t_is (t_test (x_op (x_takeJ 0 (x_vm rfl) x_int rfl (by decide) (by decide)) x_int (o_eqD (.d _) (.d _) (sz _) (sz _)))) (by rw [eqv_int, hz]; rfl)) (fun _ => t_is (t_not (t_B (x_callE1 (d := .bool true) (a := Tb2) (mo := .tb qBd) (a_cons (x_op (x_vd rfl) x_int (o_ixL (.d _) (d := .str n0) (at_nat (i := 0) (by decide) rfl))) (a_cons (x_op (x_vd rfl) x_int (o_ixL (.d _) (d := .str n1) (at_nat (i := 1) (by decide) rfl))) (a_cons (x_is (e1 := .d (.int (q : Int))) (x_op x_int (x_takeJ 0 (x_vm rfl) x_int rfl (by decide) (by decide)) o_I0) (by rw [hq'])) a_nil))) (List.mem_cons_of_mem _ (List.mem_cons_of_mem _ List.mem_cons_self)) ⟨n0, n1, q, rfl, rfl, rfl, tk0, tk1, by omega, rfl⟩))) rfl) (fun h => nomatch h)) rfl
      · obtain rfl := g2 hz
        exact t_is (t_and (b := false) (c := false) (t_is (t_test (x_op (x_takeJ 0 (x_vm rfl) x_int rfl (by decide) (by decide)) x_int (o_eqD (.d _) (.d _) (sz _) (sz _)))) (by rw [eqv_int]; exact beq_eq_false_iff_ne.mpr hz)) (fun h => nomatch h) (fun _ => rfl)) rfl
    clear g1 g2
    by_cases hz : tkV b5 6 = 0
    · refine r_if (b := false) (t_is (t_and (b := true) (c := false) (t_is (t_test (x_op (x_takeJ 0 (x_vm rfl) x_int rfl (by decide) (by decide)) x_int (o_eqD (.d _) (.d _) (sz _) (sz _)))) (by rw [eqv_int, hz]; rfl)) (fun _ => t_is (t_not (t_B (x_callE1w (d := .bool true) 0 (a_cons (x_vm rfl) a_nil) rfl ⟨p, tkB b5 6, rfl, rfl, rfl, rfl⟩))) rfl) (fun h => nomatch h)) rfl) (fun hb => nomatch hb) fun _ => ?_
      exact run_forget (fun a ha => ha) (r_next fun σ H o => ⟨_, _, ⟨_, _, _, _, _, _, _, _, rfl, rfl⟩, o⟩)
    · refine r_if (b := false) (μ' := [(p, .lst (tkB b5 6).ds), (Tb, .tb qRi), (Tb2, .tb qBd)]) (t_is (t_and (b := false) (c := false) (t_is (t_test (x_op (x_takeJ 0 (x_vm rfl) x_int rfl (by decide) (by decide)) x_int (o_eqD (.d _) (.d _) (sz _) (sz _)))) (by rw [eqv_int]; exact beq_eq_false_iff_ne.mpr hz)) (fun h => nomatch h) (fun _ => rfl)) rfl) (fun hb => nomatch hb) fun _ => ?_
      exact run_forget (fun a ha => ha) (r_next fun σ H o => ⟨_, _, ⟨_, _, _, _, _, _, _, _, rfl, rfl⟩, o⟩)
  · rintro δ1 μ1 ⟨e1, e2, e3, e4, e5, e6, e7, e8, rfl, rfl⟩
    exact r_retE x_bl (fun z hz => hz) fin
end
end K02
namespace K02
open PySem L2 FD
theorem kbn_id {K : PySem.W.Frag} {x qual : Str} {st : Stmt} {f : Addr} {fd : FuncData} (F : Fun K x qual st f fd) {ps ks : List Str}
    (h : ∀ (kV doc pm : Value) (an : Option Addr) (cdv ct : Value) (ws : List Value), ws.length = ks.length → bindArgs (PySem.W.fnOf x qual (defArgs st) (defBody st) (defScope st) .none kV doc pm an cdv ct) ⟨[], ks.zip ws⟩ = pure (ps.zip ws)) : KBn K fd ps 0 ks (fun _ ws => ws) (fun _ zs => zs) := by
  obtain ⟨oc, od, kV, doc, pm, an, cdv, ct, osl, rfl, lk, hcd⟩ := F.ex
  refine ⟨fun s us ws _ h0 hl => ?_, fun {vs us zs ws} _ r => r⟩
  cases us with
  | nil => exact .of_eq (h kV doc pm an cdv ct ws hl)
  | cons u us => cases h0
theorem exm_self {K : PySem.W.Frag} {S : Addr} (h1 : PySem.W.subIn K (.ref S) (.type "BaseException") = some true) (h2 : PySem.W.isClsIn K S = true) (h3 : PySem.W.typeIn K (.ref S) = some (.type "type")) (h4 : PySem.W.subIn K (.ref S) (.ref S) = some true) : PySem.W.exmOne K (.ref S) (.ref S) = some true := by
  have e1 : (PySem.W.subIn K (.ref S) (.type "BaseException") == some true) = true := by rw [h1] <;> rfl
  have e2 : ((PySem.W.clsIn K S).isSome && PySem.W.typeIn K (.ref S) == some (.type "type")) = true := by
    have h2' : (PySem.W.clsIn K S).isSome = true := h2
    rw [h2', h3] <;> rfl
  show (if (PySem.W.subIn K (.ref S) (.type "BaseException") == some true) = true then (if ((PySem.W.clsIn K S).isSome && PySem.W.typeIn K (.ref S) == some (.type "type")) = true then PySem.W.subIn K (.ref S) (.ref S) else none) else none) = some true
  rw [if_pos e1, if_pos e2]
  exact h4
theorem tops {l : PySem.W.OpenLaw} {w : World} {K : PySem.W.Frag} {h : Heap} {mg : Str → Option Value} {fa f1 f2 f3 f4 f5 f6 f7 f8 f9 f10 f11 f12 f13 f14 f15 f16 f17 f18 f19 f20 f21 f22 f23 : Addr} {cL cM : Addr} (X : K.In h) (G : h.Ns mainGlobals mg) (hfa : mg "law" = some (.ref fa))
    {od1 an1 od2 an2 od3 an3 od4 an4 od5 an5 od6 an6 od7 an7 od8 an8 od9 an9 od10 an10 od11 an11 od12 an12 od13 an13 od14 an14 od15 an15 od16 an16 od17 an17 od18 an18 od19 an19 od20 an20 od21 an21 od22 an22 od23 an23 : Option Addr} {sl1 sl2 sl3 sl4 sl5 sl6 sl7 sl8 sl9 sl10 sl11 sl12 sl13 sl14 sl15 sl16 sl17 sl18 sl19 sl20 sl21 sl22 sl23 : Array (Option Value)} {oc1 kV1 dc1 pm1 cd1 ct1 oc2 kV2 dc2 pm2 cd2 ct2 oc3 kV3 dc3 pm3 cd3 ct3 oc4 kV4 dc4 pm4 cd4 ct4 oc5 kV5 dc5 pm5 cd5 ct5 oc6 kV6 dc6 pm6 cd6 ct6 oc7 kV7 dc7 pm7 cd7 ct7 oc8 kV8 dc8 pm8 cd8 ct8 oc9 kV9 dc9 pm9 cd9 ct9 oc10 kV10 dc10 pm10 cd10 ct10 oc11 kV11 dc11 pm11 cd11 ct11 oc12 kV12 dc12 pm12 cd12 ct12 oc13 kV13 dc13 pm13 cd13 ct13 oc14 kV14 dc14 pm14 cd14 ct14 oc15 kV15 dc15 pm15 cd15 ct15 oc16 kV16 dc16 pm16 cd16 ct16 oc17 kV17 dc17 pm17 cd17 ct17 oc18 kV18 dc18 pm18 cd18 ct18 oc19 kV19 dc19 pm19 ct19 oc20 kV20 dc20 pm20 cd20 ct20 oc21 kV21 dc21 pm21 ct21 oc22 kV22 dc22 pm22 cd22 ct22 oc23 kV23 dc23 pm23 cd23 ct23 : Value}
    (a1 : PySem.W.nsIn K mainGlobals "first_fit" = some (some (.ref f1))) (l1 : K.lookup f1 = some ⟨oc1, od1, .func (PySem.W.fnOf "first_fit" "first_fit" (defArgs sFf) (defBody sFf) (defScope sFf) .none kV1 dc1 pm1 an1 cd1 ct1), sl1⟩) (c1 : PySem.W.codeIn K cd1 "first_fit" = true) (k1 : PySem.W.keepIn K (.ref f1) = true)
    (a2 : PySem.W.nsIn K mainGlobals "within" = some (some (.ref f2))) (l2 : K.lookup f2 = some ⟨oc2, od2, .func (PySem.W.fnOf "within" "within" (defArgs sWi) (defBody sWi) (defScope sWi) .none kV2 dc2 pm2 an2 cd2 ct2), sl2⟩) (c2 : PySem.W.codeIn K cd2 "within" = true) (k2 : PySem.W.keepIn K (.ref f2) = true)
    (a3 : PySem.W.nsIn K mainGlobals "in_order" = some (some (.ref f3))) (l3 : K.lookup f3 = some ⟨oc3, od3, .func (PySem.W.fnOf "in_order" "in_order" (defArgs sIo) (defBody sIo) (defScope sIo) .none kV3 dc3 pm3 an3 cd3 ct3), sl3⟩) (c3 : PySem.W.codeIn K cd3 "in_order" = true) (k3 : PySem.W.keepIn K (.ref f3) = true)
    (a4 : PySem.W.nsIn K mainGlobals "greatest_rows" = some (some (.ref f4))) (l4 : K.lookup f4 = some ⟨oc4, od4, .func (PySem.W.fnOf "greatest_rows" "greatest_rows" (defArgs sGr) (defBody sGr) (defScope sGr) .none kV4 dc4 pm4 an4 cd4 ct4), sl4⟩) (c4 : PySem.W.codeIn K cd4 "greatest_rows" = true) (k4 : PySem.W.keepIn K (.ref f4) = true)
    (a5 : PySem.W.nsIn K mainGlobals "places_behind" = some (some (.ref f5))) (l5 : K.lookup f5 = some ⟨oc5, od5, .func (PySem.W.fnOf "places_behind" "places_behind" (defArgs sPb) (defBody sPb) (defScope sPb) .none kV5 dc5 pm5 an5 cd5 ct5), sl5⟩) (c5 : PySem.W.codeIn K cd5 "places_behind" = true) (k5 : PySem.W.keepIn K (.ref f5) = true)
    (a6 : PySem.W.nsIn K mainGlobals "common_behind" = some (some (.ref f6))) (l6 : K.lookup f6 = some ⟨oc6, od6, .func (PySem.W.fnOf "common_behind" "common_behind" (defArgs sCb) (defBody sCb) (defScope sCb) .none kV6 dc6 pm6 an6 cd6 ct6), sl6⟩) (c6 : PySem.W.codeIn K cd6 "common_behind" = true) (k6 : PySem.W.keepIn K (.ref f6) = true)
    (a7 : PySem.W.nsIn K mainGlobals "common_all" = some (some (.ref f7))) (l7 : K.lookup f7 = some ⟨oc7, od7, .func (PySem.W.fnOf "common_all" "common_all" (defArgs sCa) (defBody sCa) (defScope sCa) .none kV7 dc7 pm7 an7 cd7 ct7), sl7⟩) (c7 : PySem.W.codeIn K cd7 "common_all" = true) (k7 : PySem.W.keepIn K (.ref f7) = true)
    (a8 : PySem.W.nsIn K mainGlobals "common" = some (some (.ref f8))) (l8 : K.lookup f8 = some ⟨oc8, od8, .func (PySem.W.fnOf "common" "common" (defArgs sCo) (defBody sCo) (defScope sCo) .none kV8 dc8 pm8 an8 cd8 ct8), sl8⟩) (c8 : PySem.W.codeIn K cd8 "common" = true) (k8 : PySem.W.keepIn K (.ref f8) = true)
    (a9 : PySem.W.nsIn K mainGlobals "_law_box" = some (some (.ref f9))) (l9 : K.lookup f9 = some ⟨oc9, od9, .func (PySem.W.fnOf "_law_box" "_law_box" (defArgs sBx) (defBody sBx) (defScope sBx) .none kV9 dc9 pm9 an9 cd9 ct9), sl9⟩) (c9 : PySem.W.codeIn K cd9 "_law_box" = true) (k9 : PySem.W.keepIn K (.ref f9) = true)
    (a10 : PySem.W.nsIn K mainGlobals "_law_take" = some (some (.ref f10))) (l10 : K.lookup f10 = some ⟨oc10, od10, .func (PySem.W.fnOf "_law_take" "_law_take" (defArgs sTk) (defBody sTk) (defScope sTk) .none kV10 dc10 pm10 an10 cd10 ct10), sl10⟩) (c10 : PySem.W.codeIn K cd10 "_law_take" = true) (k10 : PySem.W.keepIn K (.ref f10) = true)
    (a11 : PySem.W.nsIn K mainGlobals "_law_pick" = some (some (.ref f11))) (l11 : K.lookup f11 = some ⟨oc11, od11, .func (PySem.W.fnOf "_law_pick" "_law_pick" (defArgs sPk) (defBody sPk) (defScope sPk) .none kV11 dc11 pm11 an11 cd11 ct11), sl11⟩) (c11 : PySem.W.codeIn K cd11 "_law_pick" = true) (k11 : PySem.W.keepIn K (.ref f11) = true)
    (a12 : PySem.W.nsIn K mainGlobals "_law_letter" = some (some (.ref f12))) (l12 : K.lookup f12 = some ⟨oc12, od12, .func (PySem.W.fnOf "_law_letter" "_law_letter" (defArgs sLe) (defBody sLe) (defScope sLe) .none kV12 dc12 pm12 an12 cd12 ct12), sl12⟩) (c12 : PySem.W.codeIn K cd12 "_law_letter" = true) (k12 : PySem.W.keepIn K (.ref f12) = true)
    (a13 : PySem.W.nsIn K mainGlobals "_law_names" = some (some (.ref f13))) (l13 : K.lookup f13 = some ⟨oc13, od13, .func (PySem.W.fnOf "_law_names" "_law_names" (defArgs sNa) (defBody sNa) (defScope sNa) .none kV13 dc13 pm13 an13 cd13 ct13), sl13⟩) (c13 : PySem.W.codeIn K cd13 "_law_names" = true) (k13 : PySem.W.keepIn K (.ref f13) = true)
    (a14 : PySem.W.nsIn K mainGlobals "_law_row" = some (some (.ref f14))) (l14 : K.lookup f14 = some ⟨oc14, od14, .func (PySem.W.fnOf "_law_row" "_law_row" (defArgs sRo) (defBody sRo) (defScope sRo) .none kV14 dc14 pm14 an14 cd14 ct14), sl14⟩) (c14 : PySem.W.codeIn K cd14 "_law_row" = true) (k14 : PySem.W.keepIn K (.ref f14) = true)
    (a15 : PySem.W.nsIn K mainGlobals "_law_changed" = some (some (.ref f15))) (l15 : K.lookup f15 = some ⟨oc15, od15, .func (PySem.W.fnOf "_law_changed" "_law_changed" (defArgs sCh) (defBody sCh) (defScope sCh) .none kV15 dc15 pm15 an15 cd15 ct15), sl15⟩) (c15 : PySem.W.codeIn K cd15 "_law_changed" = true) (k15 : PySem.W.keepIn K (.ref f15) = true)
    (a16 : PySem.W.nsIn K mainGlobals "_law_lies_in" = some (some (.ref f16))) (l16 : K.lookup f16 = some ⟨oc16, od16, .func (PySem.W.fnOf "_law_lies_in" "_law_lies_in" (defArgs sLi) (defBody sLi) (defScope sLi) .none kV16 dc16 pm16 an16 cd16 ct16), sl16⟩) (c16 : PySem.W.codeIn K cd16 "_law_lies_in" = true) (k16 : PySem.W.keepIn K (.ref f16) = true)
    (a17 : PySem.W.nsIn K mainGlobals "_law_in_all" = some (some (.ref f17))) (l17 : K.lookup f17 = some ⟨oc17, od17, .func (PySem.W.fnOf "_law_in_all" "_law_in_all" (defArgs sIa) (defBody sIa) (defScope sIa) .none kV17 dc17 pm17 an17 cd17 ct17), sl17⟩) (c17 : PySem.W.codeIn K cd17 "_law_in_all" = true) (k17 : PySem.W.keepIn K (.ref f17) = true)
    (a18 : PySem.W.nsIn K mainGlobals "_law_all_struck" = some (some (.ref f18))) (l18 : K.lookup f18 = some ⟨oc18, od18, .func (PySem.W.fnOf "_law_all_struck" "_law_all_struck" (defArgs sSa) (defBody sSa) (defScope sSa) .none kV18 dc18 pm18 an18 cd18 ct18), sl18⟩) (c18 : PySem.W.codeIn K cd18 "_law_all_struck" = true) (k18 : PySem.W.keepIn K (.ref f18) = true)
    (a19 : PySem.W.nsIn K mainGlobals "_law_right" = some (some (.ref f19))) (l19 : K.lookup f19 = some ⟨oc19, od19, .func (PySem.W.fnOf "_law_right" "_law_right" (defArgs sRi) (defBody sRi) (defScope sRi) .none kV19 dc19 pm19 an19 (.ref cL) ct19), sl19⟩) (c19 : PySem.W.codeIn K (.ref cL) "_law_right" = true) (k19 : PySem.W.keepIn K (.ref f19) = true)
    (a20 : PySem.W.nsIn K mainGlobals "_law_said" = some (some (.ref f20))) (l20 : K.lookup f20 = some ⟨oc20, od20, .func (PySem.W.fnOf "_law_said" "_law_said" (defArgs sSd) (defBody sSd) (defScope sSd) .none kV20 dc20 pm20 an20 cd20 ct20), sl20⟩) (c20 : PySem.W.codeIn K cd20 "_law_said" = true) (k20 : PySem.W.keepIn K (.ref f20) = true)
    (a21 : PySem.W.nsIn K mainGlobals "_law_bound_right" = some (some (.ref f21))) (l21 : K.lookup f21 = some ⟨oc21, od21, .func (PySem.W.fnOf "_law_bound_right" "_law_bound_right" (defArgs sBd) (defBody sBd) (defScope sBd) .none kV21 dc21 pm21 an21 (.ref cM) ct21), sl21⟩) (c21 : PySem.W.codeIn K (.ref cM) "_law_bound_right" = true) (k21 : PySem.W.keepIn K (.ref f21) = true)
    (a22 : PySem.W.nsIn K mainGlobals "_law_exchanged_right" = some (some (.ref f22))) (l22 : K.lookup f22 = some ⟨oc22, od22, .func (PySem.W.fnOf "_law_exchanged_right" "_law_exchanged_right" (defArgs sXr) (defBody sXr) (defScope sXr) .none kV22 dc22 pm22 an22 cd22 ct22), sl22⟩) (c22 : PySem.W.codeIn K cd22 "_law_exchanged_right" = true) (k22 : PySem.W.keepIn K (.ref f22) = true)
    (a23 : PySem.W.nsIn K mainGlobals "law" = some (some (.ref f23))) (l23 : K.lookup f23 = some ⟨oc23, od23, .func (PySem.W.fnOf "law" "law" (defArgs sLw) (defBody sLw) (defScope sLw) .none kV23 dc23 pm23 an23 cd23 ct23), sl23⟩) (c23 : PySem.W.codeIn K cd23 "law" = true) (k23 : PySem.W.keepIn K (.ref f23) = true)
    {C1 eS1 eN1 eI1 eA1 eB1 : Addr} {en1 eq1 : Str} {ebs1 esub1 : List Value} {esn1 : List Str} {eab1 : Bool} {ecol1 : Option Bool} {edd1 eod1 ean1 ecd1 eld1 : Option Addr} {em01 em11 em21 em31 em51 : Option Value} {eoc1 edoc1 epm1 ect1 eccl1 ecl1 : Value} {eosl1 eccs1 ecsl1 : Array (Option Value)} {evs1 : Array Value} {efile1 : Str} {etf1 : Tok}
    (gC1 : PySem.W.nsIn K mainGlobals "Refused" = some (some (.ref C1))) (xL1 : K.lookup C1 = some (PySem.excClassObj en1 eq1 C1 eN1 ebs1 [.ref eS1, .type "ValueError", .type "Exception", .type "BaseException", .type "object"] true esn1 esub1 eab1 ecol1 edd1 em01 em11 em21 em31 em51 "ValueError.__new__"))
    (sa1 : PySem.W.findIn K (.ref C1) "__setattr__" = some (some (.builtin "object.__setattr__"))) (ga1 : PySem.W.findIn K (.ref C1) "__getattribute__" = some (some (.builtin "BaseException.__getattribute__"))) (gg1 : PySem.W.findIn K (.ref C1) "__getattr__" = some none) (nb1 : PySem.W.findIn K (.ref C1) "word" = some none)
    (iC1 : PySem.W.findIn K (.ref C1) "__init__" = some (some (.ref eI1))) (tC1 : PySem.W.typeIn K (.ref eI1) = some (.type "function")) (kC1 : PySem.W.keepIn K (.ref C1) = true) (eC1 : PySem.W.subIn K (.ref C1) (.type "BaseException") = some true) (ty1 : PySem.W.typeIn K (.ref C1) = some (.type "type")) (hd1 : PySem.W.hasDictIn K C1 = true) (ic1 : PySem.W.isClsIn K C1 = true) (sc1 : PySem.W.subIn K (.ref C1) (.ref C1) = some true)
    (ve1 : PySem.W.subIn K (.ref C1) (.type "ValueError") = some true) (mr1 : PySem.W.mroIn K C1 (.ref C1) = some true) (su1 : PySem.W.ks_superIn K C1 C1 "__init__" = some (some (.builtin "ValueError.__init__"))) (oq1 : PySem.W.nsIn K cStatics "thirdparty.any" = some none) (tp1 : (l.prog.main.scope.names.lookup ("super" : Str)).isSome = false)
    (ya1 : K.lookup eI1 = some ⟨eoc1, eod1, .func (PySem.W.ksFn "__init__" "Refused.__init__" PySem.ErrRef.iA PySem.ErrRef.iB PySem.ErrRef.iS .none .none edoc1 epm1 ean1 (.ref eA1) ect1 eB1), eosl1⟩) (yb1 : PySem.W.codeIn K (.ref eA1) "Refused.__init__" = true) (yc1 : K.lookup eA1 = some ⟨eccl1, ecd1, .fields evs1, eccs1⟩) (yd1 : evs1[2]? = some (.str efile1 etf1)) (ye1 : ((l.prog.main.file : Str) == efile1) = true) (yf1 : K.lookup eB1 = some ⟨ecl1, eld1, .cell (some (.ref C1)), ecsl1⟩)
    {ti1 : Tok} (n1 : PySem.W.nsIn K mainGlobals "LONGEST_COMMON" = some (some (.int 12 ti1)))
    {Sx Tb Tb2 : Addr} (hne : Tb ≠ Tb2) (sE1 : PySem.W.nsIn K mainGlobals "StillError" = some (some (.ref Sx))) (kS1 : PySem.W.kitOne K (.ref C1) (.ref Sx) = some true) (kV1 : PySem.W.kitOne K (.ref C1) (.type "ValueError") = some true)
    (xa1 : PySem.W.findIn K (.ref C1) "__class__" = some (some (.builtin "object.__class__"))) (xn1 : PySem.W.specialIn K (.builtin "object.__class__") "__get__" = some (some (.builtin "getset_descriptor.__get__"))) (xt1 : PySem.W.takesIn K (.builtin "object.__class__") = some true) (xm1 : PySem.W.mroIn K C1 (.type "object") = some true)
    (z1 : PySem.W.nsIn K mainGlobals "abs" = some none) (z2 : PySem.W.nsIn K mainGlobals "all" = some none) (z3 : PySem.W.nsIn K mainGlobals "any" = some none) (z4 : PySem.W.nsIn K mainGlobals "enumerate" = some none) (z5 : PySem.W.nsIn K mainGlobals "int" = some none) (z6 : PySem.W.nsIn K mainGlobals "isinstance" = some none) (z7 : PySem.W.nsIn K mainGlobals "len" = some none) (z8 : PySem.W.nsIn K mainGlobals "list" = some none) (z9 : PySem.W.nsIn K mainGlobals "range" = some none) (z10 : PySem.W.nsIn K mainGlobals "set" = some none) (z11 : PySem.W.nsIn K mainGlobals "sorted" = some none) (z12 : PySem.W.nsIn K mainGlobals "tuple" = some none) (z13 : PySem.W.nsIn K mainGlobals "zip" = some none) (z14 : PySem.W.nsIn K mainGlobals "ValueError" = some none) (z15 : PySem.W.nsIn K mainGlobals "super" = some none) :
    ∃ fd : FuncData, (∀ (s : Shared) (v : Value), BindsTo s fd ⟨[v], []⟩ [("_law_script", v)]) ∧ ∀ base : Heap, K.In base → base.Ns mainGlobals mg → LamX.TabB base mg cL Tb → LamX.TabB base mg cM Tb2 → FnOk l.prog w K mg base CX0 22 fa fd ["_law_script"] (spLawT K Tb Tb2) := by
  have e := hfa.symm.trans (PySem.W.mg_of X G a23)
  cases e
  have T : Txt mg := ⟨PySem.W.mg_none_of X G z1, PySem.W.mg_none_of X G z2, PySem.W.mg_none_of X G z3, PySem.W.mg_none_of X G z4, PySem.W.mg_none_of X G z5, PySem.W.mg_none_of X G z6, PySem.W.mg_none_of X G z7, PySem.W.mg_none_of X G z8, PySem.W.mg_none_of X G z9, PySem.W.mg_none_of X G z10, PySem.W.mg_none_of X G z11, PySem.W.mg_none_of X G z12, PySem.W.mg_none_of X G z13, PySem.W.mg_none_of X G z14, ⟨ti1, PySem.W.mg_of X G n1⟩⟩
  have TE1 : PySem.ErrRef.ErrTxt K mg l.prog C1 eI1 := { gC := PySem.W.mg_of X G gC1, cls := ⟨_, _, _, _, _, _, _, _, _, _, _, _, _, _, _, xL1, rfl⟩, sa := sa1, ga := ga1, gg := gg1, noN := nb1, iC := iC1, tC := tC1, kC := kC1, exC := eC1, tyC := ty1, hdC := hd1, te := exm_self eC1 ic1 ty1 sc1, fn := ⟨_, _, _, _, _, _, _, _, _, ya1, yb1, ⟨_, _, _, _, _, _, yc1, yd1, ye1⟩, _, _, _, yf1⟩, inVE := ve1, mroC := mr1, sup := su1, gS := PySem.W.mg_none_of X G z15, opq := oq1, top := tp1 }
  have F1 := fun_mk (st := sFf) l1 c1 k1
  have b1 := F1.binds (ps := ["u", "v"]) fun _ _ _ _ _ _ us hl => match us, hl with | [_, _], _ => rfl
  have h1 : Has K mg "first_fit" sFf ["u", "v"] f1 _ := ⟨F1, b1, PySem.W.mg_of X G a1⟩
  have F2 := fun_mk (st := sWi) l2 c2 k2
  have b2 := F2.binds (ps := ["u", "v"]) fun _ _ _ _ _ _ us hl => match us, hl with | [_, _], _ => rfl
  have h2 : Has K mg "within" sWi ["u", "v"] f2 _ := ⟨F2, b2, PySem.W.mg_of X G a2⟩
  have F3 := fun_mk (st := sIo) l3 c3 k3
  have b3 := F3.binds (ps := ["rows"]) fun _ _ _ _ _ _ us hl => match us, hl with | [_], _ => rfl
  have h3 : Has K mg "in_order" sIo ["rows"] f3 _ := ⟨F3, b3, PySem.W.mg_of X G a3⟩
  have F4 := fun_mk (st := sGr) l4 c4 k4
  have b4 := F4.binds (ps := ["rows"]) fun _ _ _ _ _ _ us hl => match us, hl with | [_], _ => rfl
  have h4 : Has K mg "greatest_rows" sGr ["rows"] f4 _ := ⟨F4, b4, PySem.W.mg_of X G a4⟩
  have F5 := fun_mk (st := sPb) l5 c5 k5
  have b5 := F5.binds (ps := ["rows", "places", "deed"]) fun _ _ _ _ _ _ us hl => match us, hl with | [_, _, _], _ => rfl
  have h5 : Has K mg "places_behind" sPb ["rows", "places", "deed"] f5 _ := ⟨F5, b5, PySem.W.mg_of X G a5⟩
  have F6 := fun_mk (st := sCb) l6 c6 k6
  have b6 := F6.binds (ps := ["rows", "places", "known"]) fun _ _ _ _ _ _ us hl => match us, hl with | [_, _, _], _ => rfl
  have h6 : Has K mg "common_behind" sCb ["rows", "places", "known"] f6 _ := ⟨F6, b6, PySem.W.mg_of X G a6⟩
  have F7 := fun_mk (st := sCa) l7 c7 k7
  have b7 := F7.binds (ps := ["rows"]) fun _ _ _ _ _ _ us hl => match us, hl with | [_], _ => rfl
  have h7 : Has K mg "common_all" sCa ["rows"] f7 _ := ⟨F7, b7, PySem.W.mg_of X G a7⟩
  have F8 := fun_mk (st := sCo) l8 c8 k8
  have b8 := F8.binds (ps := ["u", "v"]) fun _ _ _ _ _ _ us hl => match us, hl with | [_, _], _ => rfl
  have h8 : Has K mg "common" sCo ["u", "v"] f8 _ := ⟨F8, b8, PySem.W.mg_of X G a8⟩
  have F9 := fun_mk (st := sBx) l9 c9 k9
  have b9 := F9.binds (ps := ["_law_script", "_law_k"]) fun _ _ _ _ _ _ us hl => match us, hl with | [_, _], _ => rfl
  have h9 : Has K mg "_law_box" sBx ["_law_script", "_law_k"] f9 _ := ⟨F9, b9, PySem.W.mg_of X G a9⟩
  have F10 := fun_mk (st := sTk) l10 c10 k10
  have b10 := F10.binds (ps := ["_law_box_here", "_law_many"]) fun _ _ _ _ _ _ us hl => match us, hl with | [_, _], _ => rfl
  have h10 : Has K mg "_law_take" sTk ["_law_box_here", "_law_many"] f10 _ := ⟨F10, b10, PySem.W.mg_of X G a10⟩
  have F11 := fun_mk (st := sPk) l11 c11 k11
  have b11 := F11.binds (ps := ["_law_box_here", "_law_some"]) fun _ _ _ _ _ _ us hl => match us, hl with | [_, _], _ => rfl
  have h11 : Has K mg "_law_pick" sPk ["_law_box_here", "_law_some"] f11 _ := ⟨F11, b11, PySem.W.mg_of X G a11⟩
  have F12 := fun_mk (st := sLe) l12 c12 k12
  have b12 := F12.binds (ps := ["_law_box_here"]) fun _ _ _ _ _ _ us hl => match us, hl with | [_], _ => rfl
  have h12 : Has K mg "_law_letter" sLe ["_law_box_here"] f12 _ := ⟨F12, b12, PySem.W.mg_of X G a12⟩
  have F13 := fun_mk (st := sNa) l13 c13 k13
  have b13 := F13.binds (ps := ["_law_box_here", "_law_many"]) fun _ _ _ _ _ _ us hl => match us, hl with | [_, _], _ => rfl
  have h13 : Has K mg "_law_names" sNa ["_law_box_here", "_law_many"] f13 _ := ⟨F13, b13, PySem.W.mg_of X G a13⟩
  have F14 := fun_mk (st := sRo) l14 c14 k14
  have b14 := F14.binds (ps := ["_law_box_here", "_law_names_here", "_law_most"]) fun _ _ _ _ _ _ us hl => match us, hl with | [_, _, _], _ => rfl
  have h14 : Has K mg "_law_row" sRo ["_law_box_here", "_law_names_here", "_law_most"] f14 _ := ⟨F14, b14, PySem.W.mg_of X G a14⟩
  have F15 := fun_mk (st := sCh) l15 c15 k15
  have b15 := F15.binds (ps := ["_law_box_here", "_law_row_here", "_law_names_here"]) fun _ _ _ _ _ _ us hl => match us, hl with | [_, _, _], _ => rfl
  have h15 : Has K mg "_law_changed" sCh ["_law_box_here", "_law_row_here", "_law_names_here"] f15 _ := ⟨F15, b15, PySem.W.mg_of X G a15⟩
  have F16 := fun_mk (st := sLi) l16 c16 k16
  have b16 := F16.binds (ps := ["_law_u", "_law_v"]) fun _ _ _ _ _ _ us hl => match us, hl with | [_, _], _ => rfl
  have h16 : Has K mg "_law_lies_in" sLi ["_law_u", "_law_v"] f16 _ := ⟨F16, b16, PySem.W.mg_of X G a16⟩
  have F17 := fun_mk (st := sIa) l17 c17 k17
  have b17 := F17.binds (ps := ["_law_row_here", "_law_rows"]) fun _ _ _ _ _ _ us hl => match us, hl with | [_, _], _ => rfl
  have h17 : Has K mg "_law_in_all" sIa ["_law_row_here", "_law_rows"] f17 _ := ⟨F17, b17, PySem.W.mg_of X G a17⟩
  have F18 := fun_mk (st := sSa) l18 c18 k18
  have b18 := F18.binds (ps := ["_law_row_here"]) fun _ _ _ _ _ _ us hl => match us, hl with | [_], _ => rfl
  have h18 : Has K mg "_law_all_struck" sSa ["_law_row_here"] f18 _ := ⟨F18, b18, PySem.W.mg_of X G a18⟩
  have F19 := fun_mk (st := sRi) l19 c19 k19
  have b19 := F19.binds (ps := ["_law_told", "_law_rows"]) fun _ _ _ _ _ _ us hl => match us, hl with | [_, _], _ => rfl
  have h19 : Has K mg "_law_right" sRi ["_law_told", "_law_rows"] f19 _ := ⟨F19, b19, PySem.W.mg_of X G a19⟩
  have F20 := fun_mk (st := sSd) l20 c20 k20
  have b20 := F20.binds (ps := ["_law_work"]) fun _ _ _ _ _ _ us hl => match us, hl with | [_], _ => rfl
  have h20 : Has K mg "_law_said" sSd ["_law_work"] f20 _ := ⟨F20, b20, PySem.W.mg_of X G a20⟩
  have F21 := fun_mk (st := sBd) l21 c21 k21
  have b21 := F21.binds (ps := ["_law_name", "_law_other", "_law_many"]) fun _ _ _ _ _ _ us hl => match us, hl with | [_, _, _], _ => rfl
  have h21 : Has K mg "_law_bound_right" sBd ["_law_name", "_law_other", "_law_many"] f21 _ := ⟨F21, b21, PySem.W.mg_of X G a21⟩
  have F22 := fun_mk (st := sXr) l22 c22 k22
  have b22 := F22.binds (ps := ["_law_box_here"]) fun _ _ _ _ _ _ us hl => match us, hl with | [_], _ => rfl
  have h22 : Has K mg "_law_exchanged_right" sXr ["_law_box_here"] f22 _ := ⟨F22, b22, PySem.W.mg_of X G a22⟩
  have K7 : KBn K _ ["rows"] 0 ["rows"] (fun _ ws => ws.reverse) (fun _ zs => zs.reverse) := kbn_rev F7 fun _ _ _ _ _ _ us hl => match us, hl with | [_], _ => rfl
  have K8 : KBn K _ ["u", "v"] 0 ["u", "v"] (fun _ ws => ws) (fun _ zs => zs) := kbn_id F8 fun _ _ _ _ _ _ us hl => match us, hl with | [_, _], _ => rfl
  have XC : ExcC K C1 := ⟨ga1, gg1, eC1, hd1, xa1, xn1, xt1, xm1⟩
  exact ⟨PySem.W.fnOf "law" "law" (defArgs sLw) (defBody sLw) (defScope sLw) .none kV23 dc23 pm23 an23 cd23 ct23, fun s v => .of_eq rfl, fun base _ _ TBH TBH2 => ok_lw T TE1 XC (PySem.W.mg_of X G sE1) kS1 kV1 TBH TBH2 hne (fun_mk (st := sLw) l23 c23 k23) h1 h2 h3 h4 h5 h6 h7 h8 h9 h10 h11 h12 h13 h14 h15 h16 h17 h18 h19 h20 h21 h22 rfl rfl K7 K8⟩
theorem walk {l : PySem.W.OpenLaw} {q : Program} {loose : List Str} {XP : (Str → Option Value) → Heap → Prop} {YP : World → Heap → Prop} {d : DefRec} {K : Params → PySem.W.Frag} (hn : l.most = some 63) (hdf : d.params.defaults = [])
    (hY : ∀ (w : World) (h : Heap), YP w h → (K w.params).In h)
    (F : ∀ (w : World) (mg : Str → Option Value) (fa : Addr) (h : Heap), YP w h → (K w.params).In h → h.Ns mainGlobals mg → mg d.name = some (.ref fa) →
      ∃ (c Tb c2 Tb2 : Addr), h.get? Tb = some { cls := .none, data := .fields #[] } ∧ (K w.params).lookup Tb = none ∧ PySem.W.CodeHd h c Tb ∧ h.get? Tb2 = some { cls := .none, data := .fields #[] } ∧ (K w.params).lookup Tb2 = none ∧ PySem.W.CodeHd h c2 Tb2 ∧
        ∃ fd : FuncData, (∀ (s : Shared) (u : Value), BindsTo s fd ⟨[u], []⟩ [("_law_script", u)]) ∧ ∀ base : Heap, (K w.params).In base → base.Ns mainGlobals mg → LamX.TabB base mg c Tb → LamX.TabB base mg c2 Tb2 → FnOk l.prog w (K w.params) mg base CX0 22 fa fd ["_law_script"] (spLawT (K w.params) Tb Tb2)) :
    PySem.W.WalkO q loose XP YP l.row.toRowW d [] (fun f vs => PySem.call f vs) :=
  LamX.walk_ofTs (n := 63) (k := 22) (x := "_law_script") (CX := fun _ => CX0) hn (by decide) hdf ⟨rfl, by decide, by decide⟩ hY (fun w mg fa h Y KX G hm => by
    obtain ⟨c, Tb, c2, Tb2, t1, t2, t3, u1, u2, u3, fd, hb, hF⟩ := F w mg fa h Y KX G hm
    refine ⟨fd, [(c, Tb), (c2, Tb2)], spLawT (K w.params) Tb Tb2, fun p hp => ?_, fun p hp => ?_, fun p hp => ?_, hb, fun H a ns hl _ hT hS => ⟨a, ns, rfl, hS, hl, hT (c, Tb) List.mem_cons_self, hT (c2, Tb2) (List.mem_cons_of_mem _ List.mem_cons_self), fun _ => rfl⟩, fun base k1 k2 k3 => hF base k1 k2 (k3 (c, Tb) List.mem_cons_self) (k3 (c2, Tb2) (List.mem_cons_of_mem _ List.mem_cons_self))⟩
    · rcases List.mem_cons.mp hp with rfl | hp
      · exact t1
      · rw [List.mem_singleton.mp hp]; exact u1
    · rcases List.mem_cons.mp hp with rfl | hp
      · exact t2
      · rw [List.mem_singleton.mp hp]; exact u2
    · rcases List.mem_cons.mp hp with rfl | hp
      · exact t3
      · rw [List.mem_singleton.mp hp]; exact u3) fun _ _ _ _ _ z => z
end K02

open PySem PySem.W PyProof.Rows in
set_option maxRecDepth 100000 in
set_option maxHeartbeats 0 in
theorem PySem.Challenge.cw_stillowed_k02_whole_common_rows_holds : PySem.Challenge.rw_stillowed_k02_whole_common_rows.Holds := by
  w_on; o_law; k_head; (case hw => w_witness2)
  k_fill
  refine K02.walk (l := PySem.Challenge.rw_stillowed_k02_whole_common_rows) rfl rfl (fun w h Y => PySem.W.km_in_of Y) ?F
  case F =>
    intro w mg fa h Y KX G hmg
    refine' ⟨?cL, 162, ?cM, 174, PySem.W.km_tabs_of Y 162 (by decide), ?nT, PySem.W.codeHd_of_K KX ?hC, PySem.W.km_tabs_of Y 174 (by decide), ?nU, PySem.W.codeHd_of_K KX ?hD, ?tops⟩
    case tops =>
      refine' K02.tops KX G hmg ?a1 ?l1 ?c1 ?k1 ?a2 ?l2 ?c2 ?k2 ?a3 ?l3 ?c3 ?k3 ?a4 ?l4 ?c4 ?k4 ?a5 ?l5 ?c5 ?k5 ?a6 ?l6 ?c6 ?k6 ?a7 ?l7 ?c7 ?k7 ?a8 ?l8 ?c8 ?k8 ?a9 ?l9 ?c9 ?k9 ?a10 ?l10 ?c10 ?k10 ?a11 ?l11 ?c11 ?k11 ?a12 ?l12 ?c12 ?k12 ?a13 ?l13 ?c13 ?k13 ?a14 ?l14 ?c14 ?k14 ?a15 ?l15 ?c15 ?k15 ?a16 ?l16 ?c16 ?k16 ?a17 ?l17 ?c17 ?k17 ?a18 ?l18 ?c18 ?k18 ?a19 ?l19 ?c19 ?k19 ?a20 ?l20 ?c20 ?k20 ?a21 ?l21 ?c21 ?k21 ?a22 ?l22 ?c22 ?k22 ?a23 ?l23 ?c23 ?k23 ?gC1 ?xL1 ?sa1 ?ga1 ?gg1 ?nb1 ?iC1 ?tC1 ?kC1 ?eC1 ?ty1 ?hd1 ?ic1 ?sc1 ?ve1 ?mr1 ?su1 ?oq1 ?tp1 ?ya1 ?yb1 ?yc1 ?yd1 ?ye1 ?yf1 ?n1 ?hne ?sE1 ?kS1 ?kV1 ?xa1 ?xn1 ?xt1 ?xm1 ?z1 ?z2 ?z3 ?z4 ?z5 ?z6 ?z7 ?z8 ?z9 ?z10 ?z11 ?z12 ?z13 ?z14 ?z15
      (case a1 => k_is)
      (case l1 => k_is)
      (case c1 => k_is)
      (case k1 => k_is)
      (case a2 => k_is)
      (case l2 => k_is)
      (case c2 => k_is)
      (case k2 => k_is)
      (case a3 => k_is)
      (case l3 => k_is)
      (case c3 => k_is)
      (case k3 => k_is)
      (case a4 => k_is)
      (case l4 => k_is)
      (case c4 => k_is)
      (case k4 => k_is)
      (case a5 => k_is)
      (case l5 => k_is)
      (case c5 => k_is)
      (case k5 => k_is)
      (case a6 => k_is)
      (case l6 => k_is)
      (case c6 => k_is)
      (case k6 => k_is)
      (case a7 => k_is)
      (case l7 => k_is)
      (case c7 => k_is)
      (case k7 => k_is)
      (case a8 => k_is)
      (case l8 => k_is)
      (case c8 => k_is)
      (case k8 => k_is)
      (case a9 => k_is)
      (case l9 => k_is)
      (case c9 => k_is)
      (case k9 => k_is)
      (case a10 => k_is)
      (case l10 => k_is)
      (case c10 => k_is)
      (case k10 => k_is)
      (case a11 => k_is)
      (case l11 => k_is)
      (case c11 => k_is)
      (case k11 => k_is)
      (case a12 => k_is)
      (case l12 => k_is)
      (case c12 => k_is)
      (case k12 => k_is)
      (case a13 => k_is)
      (case l13 => k_is)
      (case c13 => k_is)
      (case k13 => k_is)
      (case a14 => k_is)
      (case l14 => k_is)
      (case c14 => k_is)
      (case k14 => k_is)
      (case a15 => k_is)
      (case l15 => k_is)
      (case c15 => k_is)
      (case k15 => k_is)
      (case a16 => k_is)
      (case l16 => k_is)
      (case c16 => k_is)
      (case k16 => k_is)
      (case a17 => k_is)
      (case l17 => k_is)
      (case c17 => k_is)
      (case k17 => k_is)
      (case a18 => k_is)
      (case l18 => k_is)
      (case c18 => k_is)
      (case k18 => k_is)
      (case a19 => k_is)
      (case l19 => k_is)
      (case c19 => k_is)
      (case k19 => k_is)
      (case a20 => k_is)
      (case l20 => k_is)
      (case c20 => k_is)
      (case k20 => k_is)
      (case a21 => k_is)
      (case l21 => k_is)
      (case c21 => k_is)
      (case k21 => k_is)
      (case a22 => k_is)
      (case l22 => k_is)
      (case c22 => k_is)
      (case k22 => k_is)
      (case a23 => k_is)
      (case l23 => k_is)
      (case c23 => k_is)
      (case k23 => k_is)
      (case gC1 => k_is)
      (case xL1 => k_is)
      (case sa1 => k_is)
      (case ga1 => k_is)
      (case gg1 => k_is)
      (case nb1 => k_is)
      (case iC1 => k_is)
      (case tC1 => k_is)
      (case kC1 => k_is)
      (case eC1 => k_is)
      (case ty1 => k_is)
      (case hd1 => k_is)
      (case ic1 => k_is)
      (case sc1 => first | rfl | k_is)
      (case ve1 => k_is)
      (case mr1 => first | rfl | k_is)
      (case su1 => ks_is)
      (case oq1 => k_is)
      (case tp1 => first | rfl | decide +kernel)
      (case ya1 => k_is)
      (case yb1 => k_is)
      (case yc1 => k_is)
      (case yd1 => rfl)
      (case ye1 => first | rfl | decide +kernel)
      (case yf1 => k_is)
      (case n1 => k_is)
      (case hne => decide)
      (case sE1 => k_is)
      (case kS1 => first | rfl | k_is)
      (case kV1 => first | rfl | k_is)
      (case xa1 => first | rfl | k_is)
      (case xn1 => first | rfl | k_is)
      (case xt1 => first | rfl | k_is)
      (case xm1 => first | rfl | k_is)
      (case z1 => k_is)
      (case z2 => k_is)
      (case z3 => k_is)
      (case z4 => k_is)
      (case z5 => k_is)
      (case z6 => k_is)
      (case z7 => k_is)
      (case z8 => k_is)
      (case z9 => k_is)
      (case z10 => k_is)
      (case z11 => k_is)
      (case z12 => k_is)
      (case z13 => k_is)
      (case z14 => k_is)
      (case z15 => k_is)
    case nT => first | rfl | k_is
    case hC => first | kernel_rfl | rfl
    case nU => first | rfl | k_is
    case hD => first | kernel_rfl | rfl
