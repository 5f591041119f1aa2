import PyProof.Rows.All
import Wide.All
import OpenK.AllK
import Wide.FinOn
import HandS.ForMost
import HandS.TupAny
import HandS.TupMul
import KE.SortData
import KE.DataMinMax
import KE.KTupSum
import HandS.RaiseMore
import HandS.Walk
import HandS.Conv
import HandS.Zip
import HandS.Style
import HandS.Flow
import KE.GoesEnum
import KE.GoesMore
import HandS.Wide
import HandS.Deep
import PySem.Challenge.RW_townroads_k40_whole_fire_in_other_orders
set_option Elab.async false
set_option linter.all false
set_option maxRecDepth 100000
set_option maxHeartbeats 2000000
/-! the value layer: readings over data in the place of the heap -/
namespace TR
open PySem L2 PySem.Spec PyProof.Rows

/-! ### data in a heap -/
mutual
inductive Dq (K : PySem.W.Frag) (H : Hp) : V → PyData → Prop
  | non : Dq K H .non .none
  | bl (b : Bool) : Dq K H (.bl b) (.bool b)
  | int (i : Int) : Dq K H (.int i) (.int i)
  | str (x : Str) : Dq K H (.str x) (.str x)
  | lst {a : Addr} {xs : List V} {ds : List PyData} : H a = some (.lst xs) → DqL K H xs ds → Dq K H (.ref a) (.list ds)
  | tup {a : Addr} {xs : List V} {ds : List PyData} : SqT K H a xs → DqL K H xs ds → Dq K H (.ref a) (.tuple ds)
inductive DqL (K : PySem.W.Frag) (H : Hp) : List V → List PyData → Prop
  | nil : DqL K H [] []
  | cons {v : V} {vs : List V} {d : PyData} {ds : List PyData} : Dq K H v d → DqL K H vs ds → DqL K H (v :: vs) (d :: ds)
end

theorem SqT.mono {K : PySem.W.Frag} {H H' : Hp} {a : Addr} {xs : List V} (e : Same H H') (h : SqT K H a xs) : SqT K H' a xs := by
  rcases h with (h | ⟨o, h⟩) | h
  · exact .inl (.inl (e _ _ h))
  · exact .inl (.inr ⟨o, e _ _ h⟩)
  · exact .inr h

section
variable {K : PySem.W.Frag} {H H' : Hp}
mutual
theorem Dq.mono (e : Same H H') : ∀ {v : V} {d : PyData}, Dq K H v d → Dq K H' v d
  | _, _, .non => .non
  | _, _, .bl b => .bl b
  | _, _, .int i => .int i
  | _, _, .str x => .str x
  | _, _, .lst h r => .lst (e _ _ h) (DqL.mono e r)
  | _, _, .tup h r => .tup (SqT.mono e h) (DqL.mono e r)
theorem DqL.mono (e : Same H H') : ∀ {vs : List V} {ds : List PyData}, DqL K H vs ds → DqL K H' vs ds
  | _, _, .nil => .nil
  | _, _, .cons h r => .cons (Dq.mono e h) (DqL.mono e r)
end
mutual
theorem Dq.dp : ∀ {v : V} {d : PyData}, Dq K H v d → Dp K H v d
  | _, _, .non => .non
  | _, _, .bl b => .bl b
  | _, _, .int i => .int i
  | _, _, .str x => .str x
  | _, _, .lst h r => .lst (SqL.of h) (DqL.dp r)
  | _, _, .tup h r => .tup h (DqL.dp r)
theorem DqL.dp : ∀ {vs : List V} {ds : List PyData}, DqL K H vs ds → DpAll K H vs ds
  | _, _, .nil => .nil
  | _, _, .cons h r => .cons (Dq.dp h) (DqL.dp r)
end
theorem DqL.length : ∀ {vs : List V} {ds : List PyData}, DqL K H vs ds → vs.length = ds.length
  | _, _, .nil => rfl
  | _, _, .cons _ r => congrArg (· + 1) (DqL.length r)
theorem DqL.get : ∀ {vs : List V} {ds : List PyData} {i : Nat} {d : PyData}, DqL K H vs ds → ds[i]? = some d → ∃ v, vs[i]? = some v ∧ Dq K H v d
  | _, _, _, _, .nil, e => by simp at e
  | _, _, 0, _, .cons h _, e => by
    cases e
    exact ⟨_, rfl, h⟩
  | _, _, i + 1, d, .cons _ r, e => DqL.get (i := i) (d := d) r e
theorem DqL.getV : ∀ {vs : List V} {ds : List PyData} {i : Nat} {v : V}, DqL K H vs ds → vs[i]? = some v → ∃ d, ds[i]? = some d ∧ Dq K H v d
  | _, _, _, _, .nil, e => by simp at e
  | _, _, 0, _, .cons h _, e => by
    cases e
    exact ⟨_, rfl, h⟩
  | _, _, i + 1, v, .cons _ r, e => DqL.getV (i := i) (v := v) r e
theorem DqL.append : ∀ {vs ws : List V} {ds es : List PyData}, DqL K H vs ds → DqL K H ws es → DqL K H (vs ++ ws) (ds ++ es)
  | _, _, _, _, .nil, s => s
  | _, _, _, _, .cons h r, s => .cons h (DqL.append r s)
theorem DqL.set {v : V} {d : PyData} (q : Dq K H v d) : ∀ {vs : List V} {ds : List PyData} (i : Nat), DqL K H vs ds → DqL K H (vs.set i v) (ds.set i d)
  | _, _, _, .nil => .nil
  | _, _, 0, .cons _ r => .cons q r
  | _, _, i + 1, .cons h r => .cons h (DqL.set q i r)
theorem DqL.take : ∀ {vs : List V} {ds : List PyData} (n : Nat), DqL K H vs ds → DqL K H (vs.take n) (ds.take n)
  | _, _, 0, _ => .nil
  | _, _, _ + 1, .nil => .nil
  | _, _, n + 1, .cons h r => .cons h (DqL.take n r)
theorem DqL.drop : ∀ {vs : List V} {ds : List PyData} (n : Nat), DqL K H vs ds → DqL K H (vs.drop n) (ds.drop n)
  | _, _, 0, r => r
  | _, _, _ + 1, .nil => .nil
  | _, _, n + 1, .cons _ r => DqL.drop n r
theorem DqL.eraseIdx : ∀ {vs : List V} {ds : List PyData} (n : Nat), DqL K H vs ds → DqL K H (vs.eraseIdx n) (ds.eraseIdx n)
  | _, _, _, .nil => .nil
  | _, _, 0, .cons _ r => r
  | _, _, n + 1, .cons h r => .cons h (DqL.eraseIdx n r)
theorem DqL.dropLast {vs : List V} {ds : List PyData} (h : DqL K H vs ds) : DqL K H vs.dropLast ds.dropLast := by
  rw [List.dropLast_eq_take, List.dropLast_eq_take, h.length]
  exact h.take _
theorem DqL.reverse : ∀ {vs : List V} {ds : List PyData}, DqL K H vs ds → DqL K H vs.reverse ds.reverse
  | _, _, .nil => .nil
  | _, _, .cons h r => by
    rw [List.reverse_cons, List.reverse_cons]
    exact (DqL.reverse r).append (.cons h .nil)
theorem DqL.rep {vs : List V} {ds : List PyData} (h : DqL K H vs ds) : ∀ k : Nat, DqL K H (List.replicate k vs).flatten (List.replicate k ds).flatten
  | 0 => .nil
  | k + 1 => by
    rw [List.replicate_succ, List.replicate_succ, List.flatten_cons, List.flatten_cons]
    exact h.append (DqL.rep h k)
theorem DqL.ints : ∀ {vs : List V} {ns : List Int}, DqL K H vs (ns.map PyData.int) → vs = ns.map V.int
  | _, [], .nil => rfl
  | _, _ :: ns, .cons (.int _) r => by rw [DqL.ints (ns := ns) r]; rfl
theorem DqL.of_ints : ∀ (ns : List Int), DqL K H (ns.map V.int) (ns.map PyData.int)
  | [] => .nil
  | n :: ns => .cons (.int n) (DqL.of_ints ns)
theorem DqL.bools : ∀ {vs : List V} {bs : List Bool}, DqL K H vs (bs.map PyData.bool) → vs = bs.map V.bl
  | _, [], .nil => rfl
  | _, _ :: bs, .cons (.bl _) r => by rw [DqL.bools (bs := bs) r]; rfl
end

/-! ### the ground: what the deck is -/
/-- K: what the top has written; F: the deck's addresses; R: what is true of the deck; dk: where it stands -/
structure Gd (K : PySem.W.Frag) where
  F : Addr → Bool
  R : Hp → Prop
  dk : Addr
/-- what the top has written -/
abbrev Gd.K {K : PySem.W.Frag} (_ : Gd K) : PySem.W.Frag := K
structure Gd.Ok {K : PySem.W.Frag} (G : Gd K) : Prop where
  loc : ∀ H H', (∀ b, G.F b = true → H' b = H b) → G.R H → G.R H'
  there : ∀ H b, G.R H → G.F b = true → H b ≠ none
/-- the heap without the deck -/
def off {K : PySem.W.Frag} (G : Gd K) (H : Hp) : Hp := fun b => if G.F b = true then none else H b
theorem off_some {K : PySem.W.Frag} {G : Gd K} {H : Hp} {b : Addr} {o : HO} (h : off G H b = some o) : G.F b = false ∧ H b = some o := by
  unfold off at h
  split at h
  · cases h
  · rename_i hb
    exact ⟨by simpa using hb, h⟩
theorem off_of {K : PySem.W.Frag} {G : Gd K} {H : Hp} {b : Addr} (hb : G.F b = false) : off G H b = H b := by
  unfold off
  rw [if_neg (by rw [hb]; exact Bool.false_ne_true)]
theorem off_same {K : PySem.W.Frag} {G : Gd K} {H : Hp} : Same (off G H) H := fun _ _ h => (off_some h).2

/-- behind a reading: what was frozen is, what stood stands (but the deck), nothing that stood is frozen anew -/
structure Ext {K : PySem.W.Frag} (G : Gd K) (Hf H Hf' H' : Hp) : Prop where
  fz : Same Hf Hf'
  kp : Same (off G H) (off G H')
  nw : ∀ b, H b ≠ none → Hf' b = Hf b
structure Good {K : PySem.W.Frag} (G : Gd K) (Hf H : Hp) : Prop where
  ok : G.Ok
  sub : Same Hf H
  nf : ∀ b, G.F b = true → Hf b = none
  res : G.R H
theorem Good.off {K : PySem.W.Frag} {G : Gd K} {Hf H : Hp} (g : Good G Hf H) : Same Hf (off G H) := fun b o h => by
  have hb : G.F b = false := by
    cases e : G.F b with
    | false => rfl
    | true => rw [g.nf b e] at h; cases h
  rw [off_of hb]
  exact g.sub b o h
theorem Ext.refl {K : PySem.W.Frag} {G : Gd K} {Hf H : Hp} : Ext G Hf H Hf H := ⟨Same.refl _, Same.refl _, fun _ _ => rfl⟩
theorem Ext.trans {K : PySem.W.Frag} {G : Gd K} {Hf H Hf1 H1 Hf2 H2 : Hp} (g : Good G Hf H) (g2 : Good G Hf2 H2) (a : Ext G Hf H Hf1 H1) (b : Ext G Hf1 H1 Hf2 H2) : Ext G Hf H Hf2 H2 := by
  refine ⟨a.fz.trans b.fz, a.kp.trans b.kp, fun c h => ?_⟩
  cases e : G.F c with
  | true => rw [g2.nf c e, g.nf c e]
  | false =>
    have h1 : H1 c ≠ none := fun z => by
      cases q : H c with
      | none => exact h q
      | some o =>
        have := a.kp c o (by rw [off_of e]; exact q)
        rw [off_of e, z] at this
        cases this
    rw [b.nw c h1, a.nw c h]

/-! ### slots and values -/
inductive Sl where
  | un
  | fz (d : PyData)
  | ow (ds : List PyData)
  | br (ds : List PyData)
  | dk
inductive Va where
  | fz (d : PyData)
  | nw (ds : List PyData)
  | br (ds : List PyData)
  | dk

/-- what a value is; H0: the heap ahead of it -/
def RV {K : PySem.W.Frag} (G : Gd K) (H0 Hf H : Hp) (v : V) : Va → Prop
  | .fz d => Dq K Hf v d
  | .nw ds => ∃ a vs, v = .ref a ∧ H0 a = none ∧ Hf a = none ∧ off G H a = some (.lst vs) ∧ DqL K Hf vs ds
  | .br ds => ∃ a vs, v = .ref a ∧ off G H a = some (.lst vs) ∧ DqL K Hf vs ds
  | .dk => v = .ref G.dk

def SlR {K : PySem.W.Frag} (G : Gd K) (Hf0 H0 : Hp) (α : Nat → Addr) (σ : L2.St) (Hf H : Hp) (i : Nat) : Sl → Prop
  | .un => True
  | .fz d => ∃ v, σ[i]? = some (some v) ∧ Dq K Hf v d
  | .ow ds => σ[i]? = some (some (.ref (α i))) ∧ H0 (α i) = none ∧ Hf (α i) = none ∧ ∃ vs, off G H (α i) = some (.lst vs) ∧ DqL K Hf vs ds
  | .br ds => ∃ a vs, σ[i]? = some (some (.ref a)) ∧ off G H0 a = some (.lst vs) ∧ DqL K Hf0 vs ds
  | .dk => σ[i]? = some (some (.ref G.dk))

structure Rel {K : PySem.W.Frag} (G : Gd K) (Hf0 H0 : Hp) (α : Nat → Addr) (σ : L2.St) (ρ : List Sl) (Hf H : Hp) : Prop where
  good0 : Good G Hf0 H0
  good : Good G Hf H
  ext : Ext G Hf0 H0 Hf H
  len : σ.length = ρ.length
  sl : ∀ i s, ρ[i]? = some s → SlR G Hf0 H0 α σ Hf H i s
  inj : ∀ i j ds es, ρ[i]? = some (.ow ds) → ρ[j]? = some (.ow es) → α i = α j → i = j

section
variable {K : PySem.W.Frag} {G : Gd K} {Hf0 H0 : Hp} {α : Nat → Addr} {σ : L2.St} {ρ : List Sl} {Hf H Hf' H' : Hp}
theorem off_none {b : Addr} (h : H b = none) : off G H b = none := by
  unfold off
  split
  · rfl
  · exact h
/-- an expression has run: the slots stay -/
theorem Rel.step (r : Rel G Hf0 H0 α σ ρ Hf H) (g : Good G Hf' H') (e : Ext G Hf H Hf' H') : Rel G Hf0 H0 α σ ρ Hf' H' := by
  refine ⟨r.good0, g, Ext.trans r.good0 g r.ext e, r.len, fun i s h => ?_, r.inj⟩
  have q := r.sl i s h
  cases s with
  | un => trivial
  | fz d => obtain ⟨v, h1, h2⟩ := q; exact ⟨v, h1, h2.mono e.fz⟩
  | ow ds =>
    obtain ⟨h1, h2, h3, vs, h4, h5⟩ := q
    exact ⟨h1, h2, (e.nw _ (by rw [(off_some h4).2]; exact fun z => nomatch z)).trans h3, vs, e.kp _ _ h4, h5.mono e.fz⟩
  | br ds => exact q
  | dk => exact q
end

/-! ### readings -/
abbrev VTE := List Sl → (Va → Prop) → Prop
abbrev VTT := List Sl → (Bool → Prop) → Prop
def SndE {K : PySem.W.Frag} (G : Gd K) (te : TE) (t : VTE) : Prop :=
  ∀ (Hf0 H0 : Hp) (α : Nat → Addr) (σ : L2.St) (ρ : List Sl) (Hf H : Hp) (Qd : Va → Prop) (Q : VK), Rel G Hf0 H0 α σ ρ Hf H → t ρ Qd →
    (∀ va v Hf' H', Qd va → Good G Hf' H' → Ext G Hf H Hf' H' → RV G H Hf' H' v va → Q v H') → te σ H Q
def SndT {K : PySem.W.Frag} (G : Gd K) (tt : TT) (t : VTT) : Prop :=
  ∀ (Hf0 H0 : Hp) (α : Nat → Addr) (σ : L2.St) (ρ : List Sl) (Hf H : Hp) (Qd : Bool → Prop) (Q : Bool → Hp → Prop), Rel G Hf0 H0 α σ ρ Hf H → t ρ Qd →
    (∀ b Hf' H', Qd b → Good G Hf' H' → Ext G Hf H Hf' H' → Q b H') → tt σ H Q
structure VE (X : Cx) {K : PySem.W.Frag} (G : Gd K) (e : Expr) (te : TE) (t : VTE) : Prop where
  pe : PE X e te
  sn : SndE G te t
structure VT (X : Cx) {K : PySem.W.Frag} (G : Gd K) (e : Expr) (tt : TT) (t : VTT) : Prop where
  pe : PT X e tt
  sn : SndT G tt t
/-- a frozen value (data) -/
def SndF {K : PySem.W.Frag} (G : Gd K) (te : TE) (t : List Sl → (PyData → Prop) → Prop) : Prop :=
  ∀ (Hf0 H0 : Hp) (α : Nat → Addr) (σ : L2.St) (ρ : List Sl) (Hf H : Hp) (Qd : PyData → Prop) (Q : VK), Rel G Hf0 H0 α σ ρ Hf H → t ρ Qd →
    (∀ d v Hf' H', Qd d → Good G Hf' H' → Ext G Hf H Hf' H' → Dq K Hf' v d → Q v H') → te σ H Q
structure VF (X : Cx) {K : PySem.W.Frag} (G : Gd K) (e : Expr) (te : TE) (t : List Sl → (PyData → Prop) → Prop) : Prop where
  pe : PE X e te
  sn : SndF G te t

def Va.frz : Va → (PyData → Prop) → Prop
  | .fz d, Q => Q d
  | .nw ds, Q => Q (.list ds)
  | _, _ => False
def frzV (t : VTE) : List Sl → (PyData → Prop) → Prop := fun ρ Q => t ρ fun va => va.frz Q

theorem same_upd {H : Hp} {p : Addr} {o : HO} (h : H p = none) : Same H (upd H p o) := fun b x e => by
  rw [upd_ne (ne_of_none e h)]
  exact e
/-- a new list is frozen -/
theorem freeze_new {K : PySem.W.Frag} {G : Gd K} {H0 Hf H : Hp} {a : Addr} {vs : List V} (g : Good G Hf H) (h1 : Hf a = none) (h2 : off G H a = some (.lst vs)) : Good G (upd Hf a (.lst vs)) H := by
  have hb := off_some h2
  refine ⟨g.ok, fun b o e => ?_, fun b e => ?_, g.res⟩
  · by_cases q : b = a
    · subst q; rw [upd_same] at e; cases e; exact hb.2
    · rw [upd_ne q] at e; exact g.sub b o e
  · have q : b ≠ a := fun z => by subst z; rw [hb.1] at e; cases e
    rw [upd_ne q]
    exact g.nf b e
theorem vf_of {X : Cx} {K : PySem.W.Frag} {G : Gd K} {e : Expr} {te : TE} {t : VTE} (h : VE X G e te t) : VF X G e te (frzV t) := by
  refine ⟨h.pe, fun Hf0 H0 α σ ρ Hf H Qd Q r ht k => ?_⟩
  refine h.sn Hf0 H0 α σ ρ Hf H _ Q r ht fun va v Hf' H' q g ex rv => ?_
  cases va with
  | fz d => exact k d v Hf' H' q g ex rv
  | nw ds =>
    obtain ⟨a, vs, rfl, n0, nf, h1, h2⟩ := rv
    have s : Same Hf' (upd Hf' a (.lst vs)) := same_upd nf
    refine k (.list ds) _ (upd Hf' a (.lst vs)) H' q (freeze_new (H0 := H0) g nf h1) ⟨ex.fz.trans s, ex.kp, fun b hb => ?_⟩ (.lst upd_same (h2.mono s))
    have nb : b ≠ a := fun z => by subst z; exact hb n0
    rw [upd_ne nb]
    exact ex.nw b hb
  | br ds => exact q.elim
  | dk => exact q.elim
end TR

namespace TR
open PySem L2 PySem.Spec PyProof.Rows

section
variable {K : PySem.W.Frag} {G : Gd K} {Hf0 H0 : Hp} {α : Nat → Addr} {σ : L2.St} {ρ : List Sl} {Hf H Hf' H' Hs : Hp} {v : V} {va : Va} {p : Addr} {o : HO} {vs : List V} {ds : List PyData}

theorem Good.nF (g : Good G Hf H) (hp : H p = none) : G.F p = false := by
  cases e : G.F p with
  | false => rfl
  | true => exact absurd hp (g.ok.there H p g.res e)
/-- a new object, left open -/
theorem Good.open_ (g : Good G Hf H) (hp : H p = none) : Good G Hf (upd H p o) := by
  refine ⟨g.ok, fun b u e => ?_, g.nf, g.ok.loc H _ (fun b hb => ?_) g.res⟩
  · rw [upd_ne (ne_of_none (g.sub b u e) hp)]
    exact g.sub b u e
  · have nb : b ≠ p := fun z => by subst z; rw [g.nF hp] at hb; cases hb
    rw [upd_ne nb]
theorem Ext.open_ (g : Good G Hf H) (hp : H p = none) : Ext G Hf H Hf (upd H p o) := by
  refine ⟨Same.refl _, fun b u e => ?_, fun _ _ => rfl⟩
  obtain ⟨h1, h2⟩ := off_some e
  rw [off_of h1, upd_ne (ne_of_none h2 hp)]
  exact h2
/-- a new object, frozen -/
theorem Good.lay (g : Good G Hf H) (hp : H p = none) : Good G (upd Hf p o) (upd H p o) := by
  have hn := g.nF hp
  refine ⟨g.ok, fun b u e => ?_, fun b hb => ?_, (g.open_ (o := o) hp).res⟩
  · by_cases q : b = p
    · subst q; rw [upd_same] at e ⊢; exact e
    · rw [upd_ne q] at e ⊢; exact g.sub b u e
  · have nb : b ≠ p := fun z => by subst z; rw [hn] at hb; cases hb
    rw [upd_ne nb]
    exact g.nf b hb
theorem Good.fresh (g : Good G Hf H) (hp : H p = none) : Hf p = none := by
  cases q : Hf p with
  | none => rfl
  | some u => rw [g.sub p u q] at hp; cases hp
theorem Ext.lay (g : Good G Hf H) (hp : H p = none) : Ext G Hf H (upd Hf p o) (upd H p o) := by
  refine ⟨same_upd (g.fresh hp), (Ext.open_ (o := o) g hp).kp, fun b hb => ?_⟩
  have nb : b ≠ p := fun z => by subst z; exact hb hp
  rw [upd_ne nb]
theorem RV.step (r : RV G Hs Hf H v va) (e : Ext G Hf H Hf' H') : RV G Hs Hf' H' v va := by
  cases va with
  | fz d => exact Dq.mono e.fz r
  | nw ds =>
    obtain ⟨a, vs, h1, h2, h3, h4, h5⟩ := r
    exact ⟨a, vs, h1, h2, (e.nw a (by rw [(off_some h4).2]; exact fun z => nomatch z)).trans h3, e.kp _ _ h4, h5.mono e.fz⟩
  | br ds =>
    obtain ⟨a, vs, h1, h4, h5⟩ := r
    exact ⟨a, vs, h1, e.kp _ _ h4, h5.mono e.fz⟩
  | dk => exact r
theorem RV.back {Hf1 H1 : Hp} (e : Ext G Hf H Hf1 H1) (r : RV G H1 Hf' H' v va) : RV G H Hf' H' v va := by
  cases va with
  | fz d => exact r
  | nw ds =>
    obtain ⟨a, vs, h1, h2, h3, h4, h5⟩ := r
    refine ⟨a, vs, h1, ?_, h3, h4, h5⟩
    cases q : H a with
    | none => rfl
    | some u =>
      have hF := (off_some h4).1
      have := e.kp a u (by rw [off_of hF]; exact q)
      rw [(off_some this).2] at h2
      cases h2
  | br ds => exact r
  | dk => exact r

/-! ### reading a value as data -/
def Va.rd : Va → PyData
  | .fz d => d
  | .nw ds => .list ds
  | .br ds => .list ds
  | .dk => .dict []
theorem RV.dq (g : Good G Hf H) (r : RV G Hs Hf H v va) (h : ∀ kvs, va.rd ≠ .dict kvs) : Dq K H v va.rd := by
  cases va with
  | fz d => exact Dq.mono g.sub r
  | nw ds =>
    obtain ⟨a, vs, rfl, _, _, h4, h5⟩ := r
    exact .lst (off_some h4).2 (h5.mono g.sub)
  | br ds =>
    obtain ⟨a, vs, rfl, h4, h5⟩ := r
    exact .lst (off_some h4).2 (h5.mono g.sub)
  | dk => exact absurd rfl (h [])
theorem RV.lst {ds : List PyData} (g : Good G Hf H) (r : RV G Hs Hf H v va) (h : va.rd = .list ds) : ∃ a vs, v = .ref a ∧ H a = some (.lst vs) ∧ DqL K Hf vs ds := by
  cases va with
  | fz d =>
    cases (show d = .list ds from h)
    cases r with
    | lst h1 h2 => exact ⟨_, _, rfl, g.sub _ _ h1, h2⟩
  | nw es =>
    cases h
    obtain ⟨a, vs, h1, _, _, h4, h5⟩ := r
    exact ⟨a, vs, h1, (off_some h4).2, h5⟩
  | br es =>
    cases h
    obtain ⟨a, vs, h1, h4, h5⟩ := r
    exact ⟨a, vs, h1, (off_some h4).2, h5⟩
  | dk => cases h
theorem RV.tup {ds : List PyData} (g : Good G Hf H) (r : RV G Hs Hf H v va) (h : va.rd = .tuple ds) : ∃ a vs, v = .ref a ∧ SqT K Hf a vs ∧ DqL K Hf vs ds := by
  cases va with
  | fz d =>
    cases (show d = .tuple ds from h)
    cases r with
    | tup h1 h2 => exact ⟨_, _, rfl, h1, h2⟩
  | nw es => cases h
  | br es => cases h
  | dk => cases h
theorem RV.int {i : Int} (r : RV G Hs Hf H v va) (h : va.rd = .int i) : v = .int i := by
  cases va with
  | fz d => cases (show d = .int i from h); cases r; rfl
  | nw es => cases h
  | br es => cases h
  | dk => cases h
theorem RV.bl {i : Bool} (r : RV G Hs Hf H v va) (h : va.rd = .bool i) : v = .bl i := by
  cases va with
  | fz d => cases (show d = .bool i from h); cases r; rfl
  | nw es => cases h
  | br es => cases h
  | dk => cases h
theorem RV.str {i : Str} (r : RV G Hs Hf H v va) (h : va.rd = .str i) : v = .str i := by
  cases va with
  | fz d => cases (show d = .str i from h); cases r; rfl
  | nw es => cases h
  | br es => cases h
  | dk => cases h
theorem RV.non (r : RV G Hs Hf H v va) (h : va.rd = .none) : v = .non := by
  cases va with
  | fz d => cases (show d = .none from h); cases r; rfl
  | nw es => cases h
  | br es => cases h
  | dk => cases h
end

/-- the post of a value operation at (Hf, H) -/
abbrev Post {K : PySem.W.Frag} (G : Gd K) (Hf H : Hp) (Qd : Va → Prop) (Q : VK) : Prop := ∀ va v Hf' H', Qd va → Good G Hf' H' → Ext G Hf H Hf' H' → RV G H Hf' H' v va → Q v H'
section
variable {K : PySem.W.Frag} {G : Gd K} {Hf H Hf1 H1 : Hp} {Qd : Va → Prop} {Q : VK} {p : Addr} {vs : List V} {ds : List PyData}
theorem Post.flat (k : Post G Hf H Qd Q) (g : Good G Hf H) {v : V} {d : PyData} (q : Qd (.fz d)) (r : Dq K Hf v d) : Q v H := k (.fz d) v Hf H q g Ext.refl r
theorem Post.tup (k : Post G Hf H Qd Q) (g : Good G Hf H) (q : Qd (.fz (.tuple ds))) (r : DqL K Hf vs ds) (hp : H p = none) : Q (.ref p) (upd H p (.tup vs)) :=
  k (.fz (.tuple ds)) _ _ _ q (g.lay hp) (Ext.lay g hp) (Dq.tup (.inl (.inl upd_same)) (r.mono (same_upd (g.fresh hp))))
theorem Post.lst (k : Post G Hf H Qd Q) (g : Good G Hf H) (q : Qd (.nw ds)) (r : DqL K Hf vs ds) (hp : H p = none) : Q (.ref p) (upd H p (.lst vs)) :=
  k (.nw ds) _ Hf _ q (g.open_ hp) (Ext.open_ g hp) ⟨p, vs, rfl, hp, g.fresh hp, by rw [off_of (g.nF hp), upd_same], r⟩
/-- from a later heap -/
theorem Post.at (g : Good G Hf H) (e : Ext G Hf H Hf1 H1) (k : Post G Hf H Qd Q) : Post G Hf1 H1 Qd Q := fun va v Hf' H' q g' e' r => k va v Hf' H' q g' (Ext.trans g g' e e') (RV.back e r)
end

/-! ### two values -/
def SndR2 {K : PySem.W.Frag} (G : Gd K) (r : R2) (op : Va → Va → (Va → Prop) → Prop) : Prop :=
  ∀ (Hs Hf H : Hp) (x y : V) (vx vy : Va) (Qd : Va → Prop) (Q : VK), Good G Hf H → RV G Hs Hf H x vx → RV G Hs Hf H y vy → op vx vy Qd → Post G Hf H Qd Q → r x y H Q
def eOp (op : Va → Va → (Va → Prop) → Prop) (s t : VTE) : VTE := fun ρ Q => s ρ fun x => t ρ fun y => op x y Q
theorem snd_op {K : PySem.W.Frag} {G : Gd K} {r : R2} {op : Va → Va → (Va → Prop) → Prop} {ta tb : TE} {s t : VTE} (ho : SndR2 G r op) (ha : SndE G ta s) (hb : SndE G tb t) : SndE G (tOp r ta tb) (eOp op s t) := by
  intro Hf0 H0 α σ ρ Hf H Qd Q R ht k
  refine ha Hf0 H0 α σ ρ Hf H _ _ R ht fun va v Hf1 H1 q1 g1 e1 r1 => ?_
  refine hb Hf0 H0 α σ ρ Hf1 H1 _ _ (R.step g1 e1) q1 fun vb u Hf2 H2 q2 g2 e2 r2 => ?_
  exact ho H Hf2 H2 v u va vb Qd Q g2 (r1.step e2) (RV.back e1 r2) q2 (Post.at R.good (Ext.trans R.good g2 e1 e2) k)
section
variable {X : Cx} {K : PySem.W.Frag} {G : Gd K} {a b c : Expr} {ta tb tc : TE} {s t u : VTE} {pos : Pos} {r : R2} {op : Va → Va → (Va → Prop) → Prop}
theorem ve_op {o : Operator} (ho : OpR X (binaryOp o) r) (hs : SndR2 G r op) (ha : VE X G a ta s) (hb : VE X G b tb t) : VE X G (.BinOp a o b pos) (tOp r ta tb) (eOp op s t) :=
  ⟨pe_op ho ha.pe hb.pe, snd_op hs ha.sn hb.sn⟩
theorem ve_cmp {o : CmpOp} (ho : OpR X (compareOp o) r) (hs : SndR2 G r op) (ha : VE X G a ta s) (hb : VE X G b tb t) (hm : behindInMarks o b = false) : VE X G (.Compare a [o] [b] pos) (tOp r ta tb) (eOp op s t) :=
  ⟨pe_cmpR ho ha.pe hb.pe hm, snd_op hs ha.sn hb.sn⟩
/-- a value that is a bool, as a test -/
def bV (t : VTE) : VTT := fun ρ Q => t ρ fun x => match x.rd with | .bool b => Q b | _ => False
theorem snd_tB {t : VTE} {te : TE} (h : SndE G te t) : SndT G (tB te) (bV t) := by
  intro Hf0 H0 α σ ρ Hf H Qd Q R ht k
  refine h Hf0 H0 α σ ρ Hf H _ _ R ht fun va v Hf1 H1 q1 g1 e1 r1 => ?_
  split at q1
  · rename_i b hb
    exact ⟨b, r1.bl hb, k b Hf1 H1 q1 g1 e1⟩
  · exact q1.elim
theorem snd_tTest {t : VTE} {te : TE} (h : SndE G te t) : SndT G (tTest te) (bV t) := snd_tB h
theorem vt_cmp {o : CmpOp} (ho : OpR X (compareOp o) r) (hs : SndR2 G r op) (ha : VE X G a ta s) (hb : VE X G b tb t) (hm : behindInMarks o b = false) : VT X G (.Compare a [o] [b] pos) (tTest (tOp r ta tb)) (bV (eOp op s t)) :=
  ⟨pt_cmpR ho ha.pe hb.pe hm, snd_tTest (snd_op hs ha.sn hb.sn)⟩
theorem vt_val {te : TE} (h : VE X G a te t) (he : ∀ whole, isTrue a X.env whole = (do let v ← whole; standAt a.pos; holding [v] (truthy v)) := by intro _; rfl) : VT X G a (tB te) (bV t) := ⟨pt_val h.pe he, snd_tB h.sn⟩
end

/-! ### names, constants, displays -/
def varV (i : Nat) : VTE := fun ρ Q => match ρ[i]? with
  | some (.fz d) => Q (.fz d)
  | some (.ow ds) => Q (.br ds)
  | some (.br ds) => Q (.br ds)
  | some .dk => Q .dk
  | _ => False
theorem snd_var {K : PySem.W.Frag} {G : Gd K} (i : Nat) : SndE G (tVar i) (varV i) := by
  intro Hf0 H0 α σ ρ Hf H Qd Q R ht k
  unfold varV at ht
  cases e : ρ[i]? with
  | none => rw [e] at ht; exact ht.elim
  | some sl =>
    rw [e] at ht
    have q := R.sl i sl e
    cases sl with
    | un => exact ht.elim
    | fz d => obtain ⟨v, h1, h2⟩ := q; exact ⟨v, h1, k _ v Hf H ht R.good Ext.refl h2⟩
    | ow ds => obtain ⟨h1, _, _, vs, h4, h5⟩ := q; exact ⟨_, h1, k (.br ds) _ Hf H ht R.good Ext.refl ⟨_, vs, rfl, h4, h5⟩⟩
    | br ds => obtain ⟨a, vs, h1, h4, h5⟩ := q; exact ⟨_, h1, k (.br ds) _ Hf H ht R.good Ext.refl ⟨a, vs, rfl, R.ext.kp _ _ h4, h5.mono R.ext.fz⟩⟩
    | dk => exact ⟨_, q, k .dk _ Hf H ht R.good Ext.refl rfl⟩
theorem ve_var {X : Cx} {K : PySem.W.Frag} {G : Gd K} (i : Nat) {x : Str} {pos : Pos} (hN : X.N[i]? = some x := by rfl) (hv : Vis X.env.scope x := by first | exact Or.inl rfl | exact Or.inr (Or.inl rfl) | exact Or.inr (Or.inr rfl)) (hd : (x == ("__debug__" : Str)) = false := by decide)
    (hcd : (x == ("__classdict__" : Str)) = false := by decide) : VE X G (.Name x pos) (tVar i) (varV i) := ⟨pe_var hN hv hd hcd, snd_var i⟩
def conV (d : PyData) : VTE := fun _ Q => Q (.fz d)
section
variable {X : Cx} {K : PySem.W.Frag} {G : Gd K} {pos : Pos}
theorem snd_con {v : V} {d : PyData} (h : ∀ K H, Dq K H v d) : SndE G (tC v) (conV d) := fun Hf0 H0 α σ ρ Hf H Qd Q R ht k => k _ v Hf H ht R.good Ext.refl (h _ _)
theorem ve_int {i j} : VE X G (.Constant (.int i) j pos) (tC (.int i)) (conV (.int i)) := ⟨pe_int, snd_con fun _ _ => .int i⟩
theorem ve_bl {b j} : VE X G (.Constant (.bool b) j pos) (tC (.bl b)) (conV (.bool b)) := ⟨pe_bl, snd_con fun _ _ => .bl b⟩
theorem ve_non {j} : VE X G (.Constant .none j pos) (tC .non) (conV .none) := ⟨pe_non, snd_con fun _ _ => .non⟩
theorem ve_str {x j} : VE X G (.Constant (.str x) j pos) (tC (.str x)) (conV (.str x)) := ⟨pe_str, snd_con fun _ _ => .str x⟩
end

/-! ### frozen items in a row -/
abbrev VTL := List Sl → (List PyData → Prop) → Prop
def SndL {K : PySem.W.Frag} (G : Gd K) (ta : TA) (t : VTL) : Prop :=
  ∀ (Hf0 H0 : Hp) (α : Nat → Addr) (σ : L2.St) (ρ : List Sl) (Hf H : Hp) (Qd : List PyData → Prop) (Q : List V → Hp → Prop), Rel G Hf0 H0 α σ ρ Hf H → t ρ Qd →
    (∀ ds vs Hf' H', Qd ds → Good G Hf' H' → Ext G Hf H Hf' H' → DqL K Hf' vs ds → Q vs H') → ta σ H Q
structure VL (X : Cx) {K : PySem.W.Frag} (G : Gd K) (es : List Expr) (ta : TA) (t : VTL) : Prop where
  pe : PA X es ta
  sn : SndL G ta t
def nilL : VTL := fun _ Q => Q []
def consL (t : List Sl → (PyData → Prop) → Prop) (u : VTL) : VTL := fun ρ Q => t ρ fun d => u ρ fun ds => Q (d :: ds)
section
variable {X : Cx} {K : PySem.W.Frag} {G : Gd K} {e : Expr} {es : List Expr} {te : TE} {ta : TA} {s : VTE} {t : VTL} {pos : Pos}
theorem vl_nil : VL X G [] tNil nilL := ⟨pa_nil, fun Hf0 H0 α σ ρ Hf H Qd Q R ht k => k [] [] Hf H ht R.good Ext.refl .nil⟩
theorem vl_cons (h : VE X G e te s) (hr : VL X G es ta t) (hs : starEach (e :: es) X.env = (false, eval e X.env) :: starEach es X.env := by rfl) : VL X G (e :: es) (tCons te ta) (consL (frzV s) t) := by
  refine ⟨pa_cons h.pe hr.pe hs, fun Hf0 H0 α σ ρ Hf H Qd Q R ht k => ?_⟩
  refine (vf_of h).sn Hf0 H0 α σ ρ Hf H _ _ R ht fun d v Hf1 H1 q1 g1 e1 r1 => ?_
  refine hr.sn Hf0 H0 α σ ρ Hf1 H1 _ _ (R.step g1 e1) q1 fun ds vs Hf2 H2 q2 g2 e2 r2 => ?_
  exact k (d :: ds) (v :: vs) Hf2 H2 q2 g2 (Ext.trans R.good g2 e1 e2) (.cons (r1.mono e2.fz) r2)
def tupV (t : VTL) : VTE := fun ρ Q => t ρ fun ds => ds.length ≤ sizeLine ∧ Q (.fz (.tuple ds))
def lstV (t : VTL) : VTE := fun ρ Q => t ρ fun ds => ds.length ≤ sizeLine ∧ Q (.nw ds)
theorem ve_tup {x1} (h : VL X G es ta t) : VE X G (.Tuple es x1 pos) (tTup ta) (tupV t) := by
  refine ⟨pe_tup h.pe, fun Hf0 H0 α σ ρ Hf H Qd Q R ht k => ?_⟩
  refine h.sn Hf0 H0 α σ ρ Hf H _ _ R ht fun ds vs Hf1 H1 q1 g1 e1 r1 => ⟨by rw [r1.length]; exact q1.1, fun p hp => ?_⟩
  exact (Post.at R.good e1 k).tup g1 q1.2 r1 hp
theorem ve_lst (h : VL X G es ta t) : VE X G (.List es pos) (tLst ta) (lstV t) := by
  refine ⟨pe_lst h.pe, fun Hf0 H0 α σ ρ Hf H Qd Q R ht k => ?_⟩
  refine h.sn Hf0 H0 α σ ρ Hf H _ _ R ht fun ds vs Hf1 H1 q1 g1 e1 r1 => ⟨by rw [r1.length]; exact q1.1, fun p hp => ?_⟩
  exact (Post.at R.good e1 k).lst g1 q1.2 r1 hp
end
end TR

namespace TR
open PySem L2 PySem.Spec PyProof.Rows

/-! ### + - * // % ** -/
def addV : Va → Va → (Va → Prop) → Prop := fun x y Q => match x.rd, y.rd with
  | .int i, .int j => Q (.fz (.int (i + j)))
  | .list xs, .list ys => xs.length + ys.length ≤ sizeLine ∧ Q (.nw (xs ++ ys))
  | .tuple xs, .tuple ys => xs.length + ys.length ≤ sizeLine ∧ Q (.fz (.tuple (xs ++ ys)))
  | .str s, .str t => s.length + t.length ≤ sizeLine ∧ Q (.fz (.str (s ++ t)))
  | _, _ => False
def rAddS : R2 := fun x y H Q => ∃ i j, x = .str i ∧ y = .str j ∧ i.length + j.length ≤ sizeLine ∧ Q (.str (i ++ j)) H
def rAdd (K : PySem.W.Frag) : R2 := fun x y H Q => rI0 (fun i j => .int (i + j)) x y H Q ∨ rCat x y H Q ∨ rCatA K x y H Q ∨ rAddS x y H Q
theorem op_addAny {X : Cx} : OpR X (binaryOp .Add) (rAdd X.K) := op_add.or (op_cat.or (op_catA.or op_add_str))
theorem sr_add {K : PySem.W.Frag} {G : Gd K} : SndR2 G (rAdd K) addV := by
  intro Hs Hf H x y vx vy Qd Q g rx ry q k
  unfold addV at q
  split at q
  · rename_i i j hi hj
    exact .inl ⟨i, j, rx.int hi, ry.int hj, k.flat g q (.int _)⟩
  · rename_i xs ys hi hj
    obtain ⟨a, vs, rfl, h1, h2⟩ := rx.lst g hi
    obtain ⟨b, ws, rfl, h3, h4⟩ := ry.lst g hj
    exact .inr (.inl ⟨a, b, vs, ws, rfl, rfl, h1, h3, by rw [h2.length, h4.length]; exact q.1, fun p hp => k.lst g q.2 (h2.append h4) hp⟩)
  · rename_i xs ys hi hj
    obtain ⟨a, vs, rfl, h1, h2⟩ := rx.tup g hi
    obtain ⟨b, ws, rfl, h3, h4⟩ := ry.tup g hj
    refine .inr (.inr (.inl ⟨a, b, vs, ws, rfl, rfl, SqT.mono g.sub h1, SqT.mono g.sub h3, by rw [h2.length, h4.length]; exact q.1, fun e => ?_, fun _ e => ?_, fun _ _ p hp => k.tup g q.2 (h2.append h4) hp⟩))
    · subst e
      cases h2
      exact k.flat g q.2 (.tup h3 h4)
    · subst e
      cases h4
      refine k.flat g q.2 ?_
      rw [List.append_nil]
      exact .tup h1 h2
  · rename_i s t hi hj
    exact .inr (.inr (.inr ⟨s, t, rx.str hi, ry.str hj, q.1, k.flat g q.2 (.str _)⟩))
  · exact q.elim
def intV (C : Int → Int → Prop) (f : Int → Int → Int) : Va → Va → (Va → Prop) → Prop := fun x y Q => match x.rd, y.rd with
  | .int i, .int j => C i j ∧ Q (.fz (.int (f i j)))
  | _, _ => False
theorem sr_int {K : PySem.W.Frag} {G : Gd K} {C : Int → Int → Prop} {f : Int → Int → Int} : SndR2 G (rI C fun i j => .int (f i j)) (intV C f) := by
  intro Hs Hf H x y vx vy Qd Q g rx ry q k
  unfold intV at q
  split at q
  · rename_i i j hi hj
    exact ⟨i, j, rx.int hi, ry.int hj, q.1, k.flat g q.2 (.int _)⟩
  · exact q.elim
def subV : Va → Va → (Va → Prop) → Prop := fun x y Q => match x.rd, y.rd with
  | .int i, .int j => Q (.fz (.int (i - j)))
  | _, _ => False
theorem sr_sub {K : PySem.W.Frag} {G : Gd K} : SndR2 G (rI0 fun i j => .int (i - j)) subV := by
  intro Hs Hf H x y vx vy Qd Q g rx ry q k
  unfold subV at q
  split at q
  · rename_i i j hi hj
    exact ⟨i, j, rx.int hi, ry.int hj, k.flat g q (.int _)⟩
  · exact q.elim

/-! ### tuple * 1, tuple * 0 -/
theorem tuple_mul1 (l : Addr) (items : Array Value) (n : Nat) (dd : Option Addr) (sl : Array (Option Value)) (u : Tok) :
    Meets (Builtin.«tuple.__mul__» ⟨[.ref l, .int 1 u], []⟩) (fun _ R s => s.heap.get? l = some { cls := .type "tuple", dict := dd, data := .seq items n, slots := sl } ∧
      R (.ok (.ret (Value.ref l))) s) :=
  .of_wp fun prog w A R s h => by
    obtain ⟨hp, g, d, tk, os⟩ := s
    obtain ⟨hl, h⟩ := h
    have f1 := AutoSeq1.idx_int
    have c0 : (decide ((1 : Int) < -(2 ^ 63)) || decide ((1 : Int) ≥ 2 ^ 63)) = false := by decide
    have c1 : (items.isEmpty || (1 : Int) == 1) = true := by simp
    wp_walk using wpAny_loadPart' hl
    repeat (first
      | (refine wpAny_ite_false (decide_eq_false (by rw [c0]; exact Bool.false_ne_true)) ?_; wp_walk using wpAny_loadPart' hl)
      | (refine wpAny_ite_true (decide_eq_true c1) ?_; wp_walk using wpAny_loadPart' hl))
    exact ⟨_, rfl, h⟩
def rRepT1 (K : PySem.W.Frag) : R2 := fun x y H Q => ∃ l xs, x = .ref l ∧ y = .int 1 ∧ SqT K H l xs ∧ Q (.ref l) H
theorem op_repT1 {X : Cx} : OpR X (binaryOp .Mult) (rRepT1 X.K) := by
  intro pins s σ H x y v u Q I rx ry h
  obtain ⟨l, xs, rfl, rfl, hT, q⟩ := h
  cases rx
  obtain ⟨t, rfl⟩ := ry
  obtain ⟨its, r, ⟨⟨cls, dd, data, sl⟩, ho, hc, n, hd⟩, hs⟩ := I.tuple hT
  simp only at hc hd
  subst hc hd
  refine wpAny_binaryOp_repeat_ref (T := "tuple") (U := "int") (by decide) ⟨_, ho, rfl⟩ (fun s' => typeIs_int s' 1 t) noFill_tuple_mul F.fills_int_mul F.slot_int_rmul repeat_tuple F.slot_int_index.lookup
    (call_meets F.slot_int_rmul (typeIs_int s 1 t) F.entry_int_rmul (F.args_int_rmul_2 _ _) (int_rmul_tuple 1 t l its.toArray n dd sl)
      ⟨ho, rfl, ⟨_, ho, rfl⟩, call_meets F.slot_tuple_mul ⟨_, ho, rfl⟩ F.entry_tuple_mul (F.args_tuple_mul_2 _ _) (tuple_mul1 l its.toArray n dd sl t) ⟨ho, ?_⟩⟩)
  exact ⟨.ref l, H, I, rfl, q⟩
def mulV : Va → Va → (Va → Prop) → Prop := fun x y Q => match x.rd, y.rd with
  | .int i, .int j => CMul i j ∧ Q (.fz (.int (i * j)))
  | .list xs, .int k => (-(2 ^ 63) ≤ k ∧ k < 2 ^ 63 ∧ xs.length * k.toNat ≤ sizeLine) ∧ Q (.nw (List.replicate k.toNat xs).flatten)
  | .tuple xs, .int k => (xs ≠ [] ∧ 1 ≤ k ∧ k ≤ 1000 ∧ xs.length ≤ 1000) ∧ Q (.fz (.tuple (List.replicate k.toNat xs).flatten))
  | _, _ => False
def rMulA (K : PySem.W.Frag) : R2 := fun x y H Q => rI CMul (fun i j => .int (i * j)) x y H Q ∨ rRep x y H Q ∨ rRepT K x y H Q ∨ rRepT1 K x y H Q
theorem op_mulAny {X : Cx} : OpR X (binaryOp .Mult) (rMulA X.K) := op_mul.or (op_rep.or (op_repT.or op_repT1))
theorem sr_mul {K : PySem.W.Frag} {G : Gd K} : SndR2 G (rMulA K) mulV := by
  intro Hs Hf H x y vx vy Qd Q g rx ry q k
  unfold mulV at q
  split at q
  · rename_i i j hi hj
    exact .inl ⟨i, j, rx.int hi, ry.int hj, q.1, k.flat g q.2 (.int _)⟩
  · rename_i xs n hi hj
    obtain ⟨a, vs, rfl, h1, h2⟩ := rx.lst g hi
    exact .inr (.inl ⟨a, n, vs, rfl, ry.int hj, h1, q.1.1, q.1.2.1, by rw [h2.length]; exact q.1.2.2, fun p hp => k.lst g q.2 (h2.rep _) hp⟩)
  · rename_i xs n hi hj
    obtain ⟨a, vs, rfl, h1, h2⟩ := rx.tup g hi
    obtain ⟨⟨q1, q2, q3, q4⟩, q5⟩ := q
    by_cases hn : n = 1
    · subst hn
      refine .inr (.inr (.inr ⟨a, vs, rfl, ry.int hj, SqT.mono g.sub h1, k.flat g q5 ?_⟩))
      have e : (List.replicate (1 : Int).toNat xs).flatten = xs := by
        show (List.replicate 1 xs).flatten = xs
        simp
      rw [e]
      exact .tup h1 h2
    · exact .inr (.inr (.inl ⟨a, n, vs, rfl, ry.int hj, SqT.mono g.sub h1, fun e => q1 (List.eq_nil_of_length_eq_zero (by rw [← h2.length, e]; rfl)), by omega, q3, by rw [h2.length]; exact q4, fun p hp => k.tup g q5 (h2.rep _) hp⟩))
  · exact q.elim
section
variable {X : Cx} {K : PySem.W.Frag} {G : Gd K} {a b : Expr} {ta tb : TE} {s t : VTE} {pos : Pos}
theorem ve_add (ha : VE X G a ta s) (hb : VE X G b tb t) (hK : X.K = K := by rfl) : VE X G (.BinOp a .Add b pos) (tOp (rAdd K) ta tb) (eOp addV s t) := ve_op (hK ▸ op_addAny) sr_add ha hb
theorem ve_sub (ha : VE X G a ta s) (hb : VE X G b tb t) : VE X G (.BinOp a .Sub b pos) (tOp (rI0 fun i j => .int (i - j)) ta tb) (eOp subV s t) := ve_op op_sub sr_sub ha hb
theorem ve_mul (ha : VE X G a ta s) (hb : VE X G b tb t) (hK : X.K = K := by rfl) : VE X G (.BinOp a .Mult b pos) (tOp (rMulA K) ta tb) (eOp mulV s t) := ve_op (hK ▸ op_mulAny) sr_mul ha hb
theorem ve_fdiv (ha : VE X G a ta s) (hb : VE X G b tb t) : VE X G (.BinOp a .FloorDiv b pos) (tOp (rI CDivN fun i j => .int (i.fdiv j)) ta tb) (eOp (intV CDivN fun i j => i.fdiv j) s t) := ve_op op_fdivN sr_int ha hb
theorem ve_mod (ha : VE X G a ta s) (hb : VE X G b tb t) : VE X G (.BinOp a .Mod b pos) (tOp (rI (fun _ j => j ≠ 0) fun i j => .int (i.fmod j)) ta tb) (eOp (intV (fun _ j => j ≠ 0) fun i j => i.fmod j) s t) := ve_op op_modN sr_int ha hb
theorem ve_pow (ha : VE X G a ta s) (hb : VE X G b tb t) : VE X G (.BinOp a .Pow b pos) (tOp (rI CPow fun i j => .int (i ^ j.toNat)) ta tb) (eOp (intV CPow fun i j => i ^ j.toNat) s t) := ve_op op_pow sr_int ha hb
def negV (s : VTE) : VTE := fun ρ Q => s ρ fun x => match x.rd with
  | .int i => Q (.fz (.int (-i)))
  | _ => False
theorem ve_neg (ha : VE X G a ta s) : VE X G (.UnaryOp .USub a pos) (tUn (rU fun i => .int (-i)) ta) (negV s) := by
  refine ⟨pe_un un_neg ha.pe, fun Hf0 H0 α σ ρ Hf H Qd Q R ht k => ?_⟩
  refine ha.sn Hf0 H0 α σ ρ Hf H _ _ R ht fun va v Hf1 H1 q1 g1 e1 r1 => ?_
  split at q1
  · rename_i i hi
    exact ⟨i, r1.int hi, (Post.at R.good e1 k).flat g1 q1 (.int _)⟩
  · exact q1.elim
end

/-! ### comparisons -/
def eqV (neg : Bool) : Va → Va → (Va → Prop) → Prop := fun x y Q => match x.rd, y.rd with
  | .int i, .int j => Q (.fz (.bool (if neg then !decide (i = j) else decide (i = j))))
  | .str i, .str j => Q (.fz (.bool (if neg then !decide (i = j) else decide (i = j))))
  | d, e => SeqAt.shaped d = true ∧ SeqAt.shaped e = true ∧ Q (.fz (.bool (if neg then !PyData.eqv d e else PyData.eqv d e)))
def rEqA (K : PySem.W.Frag) : R2 := fun x y H Q => rEq x y H Q ∨ rEqD K x y H Q
def rNeA (K : PySem.W.Frag) : R2 := fun x y H Q => rNe x y H Q ∨ rNeD K x y H Q
theorem op_eqA {X : Cx} (hu : X.A.units + 64 < cLine) : OpR X (compareOp .Eq) (rEqA X.K) := op_eq.or (op_eqD hu)
theorem op_neA {X : Cx} (hu : X.A.units + 64 < cLine) : OpR X (compareOp .NotEq) (rNeA X.K) := op_ne.or (op_neD hu)
theorem notDict_shaped {d : PyData} (h : SeqAt.shaped d = true) : ∀ kvs, d ≠ .dict kvs := fun kvs e => by
  subst e
  have h1 : PyData.canLay0 (.dict kvs) = true := (Bool.and_eq_true_iff.mp h).1
  simp [PyData.canLay0] at h1
theorem sr_eq {K : PySem.W.Frag} {G : Gd K} : SndR2 G (rEqA K) (eqV false) := by
  intro Hs Hf H x y vx vy Qd Q g rx ry q k
  unfold eqV at q
  split at q
  · rename_i i j hi hj
    refine .inl ⟨by rw [rx.int hi, ry.int hj]; rfl, ?_⟩
    rw [rx.int hi, ry.int hj]
    have e : decide (V.int i = V.int j) = decide (i = j) := by simp
    rw [e]
    exact k.flat g q (.bl _)
  · rename_i i j hi hj
    refine .inl ⟨by rw [rx.str hi, ry.str hj]; rfl, ?_⟩
    rw [rx.str hi, ry.str hj]
    have e : decide (V.str i = V.str j) = decide (i = j) := by simp
    rw [e]
    exact k.flat g q (.bl _)
  · obtain ⟨h1, h2, q⟩ := q
    exact .inr ⟨_, _, (rx.dq g (notDict_shaped h1)).dp, (ry.dq g (notDict_shaped h2)).dp, h1, h2, k.flat g q (.bl _)⟩
theorem sr_ne {K : PySem.W.Frag} {G : Gd K} : SndR2 G (rNeA K) (eqV true) := by
  intro Hs Hf H x y vx vy Qd Q g rx ry q k
  unfold eqV at q
  split at q
  · rename_i i j hi hj
    refine .inl ⟨by rw [rx.int hi, ry.int hj]; rfl, ?_⟩
    rw [rx.int hi, ry.int hj]
    have e : decide (V.int i = V.int j) = decide (i = j) := by simp
    rw [e]
    exact k.flat g q (.bl _)
  · rename_i i j hi hj
    refine .inl ⟨by rw [rx.str hi, ry.str hj]; rfl, ?_⟩
    rw [rx.str hi, ry.str hj]
    have e : decide (V.str i = V.str j) = decide (i = j) := by simp
    rw [e]
    exact k.flat g q (.bl _)
  · obtain ⟨h1, h2, q⟩ := q
    exact .inr ⟨_, _, (rx.dq g (notDict_shaped h1)).dp, (ry.dq g (notDict_shaped h2)).dp, h1, h2, k.flat g q (.bl _)⟩
/-- < <= > >= of ints -/
def ordV (f : Int → Int → Bool) : Va → Va → (Va → Prop) → Prop := fun x y Q => match x.rd, y.rd with
  | .int i, .int j => Q (.fz (.bool (f i j)))
  | _, _ => False
theorem sr_ord {K : PySem.W.Frag} {G : Gd K} {f : Int → Int → Bool} : SndR2 G (rI0 fun i j => .bl (f i j)) (ordV f) := by
  intro Hs Hf H x y vx vy Qd Q g rx ry q k
  unfold ordV at q
  split at q
  · rename_i i j hi hj
    exact ⟨i, j, rx.int hi, ry.int hj, k.flat g q (.bl _)⟩
  · exact q.elim
def isNV (neg : Bool) : Va → Va → (Va → Prop) → Prop := fun x y Q => match y.rd with
  | .none => match x.rd with
    | .none => Q (.fz (.bool (!neg)))
    | .dict _ => False
    | _ => Q (.fz (.bool neg))
  | _ => False
theorem RV.nn {K : PySem.W.Frag} {G : Gd K} {Hs Hf H : Hp} {v : V} {va : Va} (r : RV G Hs Hf H v va) (h : va.rd ≠ .none) : v ≠ .non := by
  intro e
  subst e
  cases va with
  | fz d => cases r; exact h rfl
  | nw ds => obtain ⟨a, vs, h1, _⟩ := r; cases h1
  | br ds => obtain ⟨a, vs, h1, _⟩ := r; cases h1
  | dk => cases r
theorem sr_isN {K : PySem.W.Frag} {G : Gd K} : SndR2 G (fun x y H Q => y = .non ∧ Q (.bl (decide (x = .non))) H) (isNV false) := by
  intro Hs Hf H x y vx vy Qd Q g rx ry q k
  unfold isNV at q
  split at q
  · rename_i hy
    refine ⟨ry.non hy, ?_⟩
    split at q
    · rename_i hx
      rw [rx.non hx]
      exact k.flat g q (.bl _)
    · exact q.elim
    · rename_i h1 h2
      rw [decide_eq_false (rx.nn h1)]
      exact k.flat g q (.bl _)
  · exact q.elim
theorem sr_notN {K : PySem.W.Frag} {G : Gd K} : SndR2 G (fun x y H Q => y = .non ∧ Q (.bl (!decide (x = .non))) H) (isNV true) := by
  intro Hs Hf H x y vx vy Qd Q g rx ry q k
  unfold isNV at q
  split at q
  · rename_i hy
    refine ⟨ry.non hy, ?_⟩
    split at q
    · rename_i hx
      rw [rx.non hx]
      exact k.flat g q (.bl _)
    · exact q.elim
    · rename_i h1 h2
      rw [decide_eq_false (rx.nn h1)]
      exact k.flat g q (.bl _)
  · exact q.elim

/-! ### subscripts -/
theorem DqL.atI {K : PySem.W.Frag} {H : Hp} {vs : List V} {ds : List PyData} {i : Int} {d : PyData} (r : DqL K H vs ds) (h : L2.atI ds i = some d) : ∃ v, L2.atI vs i = some v ∧ Dq K H v d := by
  unfold L2.atI at h ⊢
  rw [r.length]
  cases e : ixN ds.length i with
  | none => rw [e] at h; cases h
  | some j =>
    rw [e] at h
    obtain ⟨v, h1, h2⟩ := r.get h
    exact ⟨v, h1, h2⟩
def idxV : Va → Va → (Va → Prop) → Prop := fun x y Q => match x.rd, y.rd with
  | .list ds, .int i => ∃ d, atI ds i = some d ∧ Q (.fz d)
  | .tuple ds, .int i => ∃ d, atI ds i = some d ∧ Q (.fz d)
  | _, _ => False
def rIxA (K : PySem.W.Frag) : R2 := fun x y H Q => rIxL K x y H Q ∨ rIxT K x y H Q
theorem ix_any {X : Cx} : IxR X (rIxA X.K) := ix_list.or ix_tup
theorem sr_ix {K : PySem.W.Frag} {G : Gd K} : SndR2 G (rIxA K) idxV := by
  intro Hs Hf H x y vx vy Qd Q g rx ry q k
  unfold idxV at q
  split at q
  · rename_i ds i hi hj
    obtain ⟨a, vs, rfl, h1, h2⟩ := rx.lst g hi
    obtain ⟨d, hd, q⟩ := q
    obtain ⟨v, h3, h4⟩ := h2.atI hd
    exact .inl ⟨a, vs, i, v, rfl, ry.int hj, SqL.of h1, h3, k.flat g q h4⟩
  · rename_i ds i hi hj
    obtain ⟨a, vs, rfl, h1, h2⟩ := rx.tup g hi
    obtain ⟨d, hd, q⟩ := q
    obtain ⟨v, h3, h4⟩ := h2.atI hd
    exact .inr ⟨a, vs, i, v, rfl, ry.int hj, SqT.mono g.sub h1, h3, k.flat g q h4⟩
  · exact q.elim
section
variable {X : Cx} {K : PySem.W.Frag} {G : Gd K} {a b c : Expr} {ta tb tc : TE} {s t u : VTE} {pos : Pos}
theorem ve_ix (ha : VE X G a ta s) (hb : VE X G b tb t) (hs : PlainIx b := by exact fun _ _ => rfl) (hK : X.K = K := by rfl) : VE X G (.Subscript a b pos) (tOp (rIxA K) ta tb) (eOp idxV s t) :=
  ⟨pe_ix (hK ▸ ix_any) ha.pe hb.pe hs, snd_op sr_ix ha.sn hb.sn⟩

/-! ### tests -/
def notT (t : VTT) : VTT := fun ρ Q => t ρ fun b => Q (!b)
def andT (t u : VTT) : VTT := fun ρ Q => t ρ fun b => if b = true then u ρ Q else Q false
def orT (t u : VTT) : VTT := fun ρ Q => t ρ fun b => if b = true then Q true else u ρ Q
variable {tA tB : TT} {p q : VTT}
theorem vt_not (h : VT X G a tA p) : VT X G (.UnaryOp .Not a pos) (tNot tA) (notT p) := by
  refine ⟨pt_not h.pe, fun Hf0 H0 α σ ρ Hf H Qd Q R ht k => ?_⟩
  exact h.sn Hf0 H0 α σ ρ Hf H _ _ R ht fun b Hf1 H1 q1 g1 e1 => k _ Hf1 H1 q1 g1 e1
theorem snd_and (ha : SndT G tA p) (hb : SndT G tB q) : SndT G (tAnd tA tB) (andT p q) := by
  intro Hf0 H0 α σ ρ Hf H Qd Q R ht k
  refine ha Hf0 H0 α σ ρ Hf H _ _ R ht fun b Hf1 H1 q1 g1 e1 => ?_
  cases b with
  | true =>
    rw [if_pos rfl] at q1 ⊢
    exact hb Hf0 H0 α σ ρ Hf1 H1 _ _ (R.step g1 e1) q1 fun c Hf2 H2 q2 g2 e2 => k c Hf2 H2 q2 g2 (Ext.trans R.good g2 e1 e2)
  | false =>
    rw [if_neg Bool.false_ne_true] at q1 ⊢
    exact k false Hf1 H1 q1 g1 e1
theorem snd_or (ha : SndT G tA p) (hb : SndT G tB q) : SndT G (tOr tA tB) (orT p q) := by
  intro Hf0 H0 α σ ρ Hf H Qd Q R ht k
  refine ha Hf0 H0 α σ ρ Hf H _ _ R ht fun b Hf1 H1 q1 g1 e1 => ?_
  cases b with
  | true =>
    rw [if_pos rfl] at q1 ⊢
    exact k true Hf1 H1 q1 g1 e1
  | false =>
    rw [if_neg Bool.false_ne_true] at q1 ⊢
    exact hb Hf0 H0 α σ ρ Hf1 H1 _ _ (R.step g1 e1) q1 fun c Hf2 H2 q2 g2 e2 => k c Hf2 H2 q2 g2 (Ext.trans R.good g2 e1 e2)
def ifV (c : VTT) (s t : VTE) : VTE := fun ρ Q => c ρ fun b => if b = true then s ρ Q else t ρ Q
theorem ve_if (hc : VT X G c tA p) (ha : VE X G a ta s) (hb : VE X G b tb t) : VE X G (.IfExp c a b pos) (tIf tA ta tb) (ifV p s t) := by
  refine ⟨pe_ifExp hc.pe ha.pe hb.pe, fun Hf0 H0 α σ ρ Hf H Qd Q R ht k => ?_⟩
  refine hc.sn Hf0 H0 α σ ρ Hf H _ _ R ht fun b Hf1 H1 q1 g1 e1 => ?_
  have k1 := Post.at R.good e1 k
  cases b with
  | true =>
    rw [if_pos rfl] at q1 ⊢
    exact ha.sn Hf0 H0 α σ ρ Hf1 H1 _ _ (R.step g1 e1) q1 k1
  | false =>
    rw [if_neg Bool.false_ne_true] at q1 ⊢
    exact hb.sn Hf0 H0 α σ ρ Hf1 H1 _ _ (R.step g1 e1) q1 k1
end
end TR

namespace TR
open PySem L2 PySem.Spec PyProof.Rows

/-! ### arguments -/
inductive RVs {K : PySem.W.Frag} (G : Gd K) (Hs Hf H : Hp) : List V → List Va → Prop
  | nil : RVs G Hs Hf H [] []
  | cons {v : V} {va : Va} {vs : List V} {vas : List Va} : RV G Hs Hf H v va → RVs G Hs Hf H vs vas → RVs G Hs Hf H (v :: vs) (va :: vas)
section
variable {K : PySem.W.Frag} {G : Gd K} {Hs Hf H Hf' H' : Hp}
theorem RVs.step : ∀ {vs : List V} {vas : List Va}, RVs G Hs Hf H vs vas → Ext G Hf H Hf' H' → RVs G Hs Hf' H' vs vas
  | _, _, .nil, _ => .nil
  | _, _, .cons r t, e => .cons (r.step e) (RVs.step t e)
theorem RVs.back {Hf1 H1 : Hp} : ∀ {vs : List V} {vas : List Va}, Ext G Hf H Hf1 H1 → RVs G H1 Hf' H' vs vas → RVs G H Hf' H' vs vas
  | _, _, _, .nil => .nil
  | _, _, e, .cons r t => .cons (RV.back e r) (RVs.back e t)
theorem RVs.length : ∀ {vs : List V} {vas : List Va}, RVs G Hs Hf H vs vas → vs.length = vas.length
  | _, _, .nil => rfl
  | _, _, .cons _ t => congrArg (· + 1) (RVs.length t)
end
abbrev VTA := List Sl → (List Va → Prop) → Prop
def SndA {K : PySem.W.Frag} (G : Gd K) (ta : TA) (t : VTA) : Prop :=
  ∀ (Hf0 H0 : Hp) (α : Nat → Addr) (σ : L2.St) (ρ : List Sl) (Hf H : Hp) (Qd : List Va → Prop) (Q : List V → Hp → Prop), Rel G Hf0 H0 α σ ρ Hf H → t ρ Qd →
    (∀ vas vs Hf' H', Qd vas → Good G Hf' H' → Ext G Hf H Hf' H' → RVs G H Hf' H' vs vas → Q vs H') → ta σ H Q
structure VA (X : Cx) {K : PySem.W.Frag} (G : Gd K) (es : List Expr) (ta : TA) (t : VTA) : Prop where
  pe : PA X es ta
  sn : SndA G ta t
def nilA : VTA := fun _ Q => Q []
def consA (t : VTE) (u : VTA) : VTA := fun ρ Q => t ρ fun d => u ρ fun ds => Q (d :: ds)
theorem snd_cons {K : PySem.W.Frag} {G : Gd K} {te : TE} {ta : TA} {s : VTE} {t : VTA} (h : SndE G te s) (hr : SndA G ta t) : SndA G (tCons te ta) (consA s t) := by
  intro Hf0 H0 α σ ρ Hf H Qd Q R ht k
  refine h Hf0 H0 α σ ρ Hf H _ _ R ht fun d v Hf1 H1 q1 g1 e1 r1 => ?_
  refine hr Hf0 H0 α σ ρ Hf1 H1 _ _ (R.step g1 e1) q1 fun ds vs Hf2 H2 q2 g2 e2 r2 => ?_
  exact k (d :: ds) (v :: vs) Hf2 H2 q2 g2 (Ext.trans R.good g2 e1 e2) (.cons (r1.step e2) (r2.back e1))
/-- a new list that goes to a def is frozen -/
def argV (t : VTE) : VTE := fun ρ Q => t ρ fun va => match va with
  | .nw ds => Q (.fz (.list ds))
  | va => Q va
theorem snd_arg {K : PySem.W.Frag} {G : Gd K} {te : TE} {t : VTE} (h : SndE G te t) : SndE G te (argV t) := by
  intro Hf0 H0 α σ ρ Hf H Qd Q R ht k
  refine h Hf0 H0 α σ ρ Hf H _ Q R ht fun va v Hf' H' q g ex rv => ?_
  cases va with
  | nw ds =>
    obtain ⟨a, vs, rfl, n0, nf, h1, h2⟩ := rv
    have s : Same Hf' (upd Hf' a (.lst vs)) := same_upd nf
    refine k (.fz (.list ds)) _ (upd Hf' a (.lst vs)) H' q (freeze_new (H0 := H0) g nf h1) ⟨ex.fz.trans s, ex.kp, fun b hb => ?_⟩ (Dq.lst upd_same (h2.mono s))
    have nb : b ≠ a := fun z => by subst z; exact hb n0
    rw [upd_ne nb]
    exact ex.nw b hb
  | fz d => exact k (.fz d) v Hf' H' q g ex rv
  | br ds => exact k (.br ds) v Hf' H' q g ex rv
  | dk => exact k .dk v Hf' H' q g ex rv
section
variable {X : Cx} {K : PySem.W.Frag} {G : Gd K} {e : Expr} {es : List Expr} {te : TE} {ta : TA} {s : VTE} {t : VTA} {pos : Pos}
theorem va_nil : VA X G [] tNil nilA := ⟨pa_nil, fun Hf0 H0 α σ ρ Hf H Qd Q R ht k => k [] [] Hf H ht R.good Ext.refl .nil⟩
theorem va_cons (h : VE X G e te s) (hr : VA X G es ta t) (hs : starEach (e :: es) X.env = (false, eval e X.env) :: starEach es X.env := by rfl) : VA X G (e :: es) (tCons te ta) (consA s t) :=
  ⟨pa_cons h.pe hr.pe hs, snd_cons h.sn hr.sn⟩
/-- an argument of a def -/
theorem va_arg (h : VE X G e te s) (hr : VA X G es ta t) (hs : starEach (e :: es) X.env = (false, eval e X.env) :: starEach es X.env := by rfl) : VA X G (e :: es) (tCons te ta) (consA (argV s) t) :=
  ⟨pa_cons h.pe hr.pe hs, snd_cons (snd_arg h.sn) hr.sn⟩
end

/-! ### built-ins -/
def SndC {K : PySem.W.Frag} (G : Gd K) (r : List V → Hp → VK → Prop) (op : List Va → (Va → Prop) → Prop) : Prop :=
  ∀ (Hs Hf H : Hp) (vs : List V) (vas : List Va) (Qd : Va → Prop) (Q : VK), Good G Hf H → RVs G Hs Hf H vs vas → op vas Qd → Post G Hf H Qd Q → r vs H Q
def calV (op : List Va → (Va → Prop) → Prop) (t : VTA) : VTE := fun ρ Q => t ρ fun vas => op vas Q
theorem snd_cal {K : PySem.W.Frag} {G : Gd K} {r : List V → Hp → VK → Prop} {op : List Va → (Va → Prop) → Prop} {ta : TA} {t : VTA} (ho : SndC G r op) (ha : SndA G ta t) : SndE G (tCB r ta) (calV op t) := by
  intro Hf0 H0 α σ ρ Hf H Qd Q R ht k
  refine ha Hf0 H0 α σ ρ Hf H _ _ R ht fun vas vs Hf1 H1 q1 g1 e1 r1 => ?_
  exact ho H Hf1 H1 vs vas Qd Q g1 r1 q1 (Post.at R.good e1 k)
section
variable {X : Cx} {K : PySem.W.Frag} {G : Gd K} {e : Expr} {es : List Expr} {ta : TA} {t : VTA} {p pos : Pos} {x : Str} {id : String} {r : List V → Hp → VK → Prop} {op : List Va → (Va → Prop) → Prop}
theorem ve_callB (ho : SndC G r op) (hc : CallR X (.builtin id) r) (hm : X.mg x = none) (hv : bootBuiltins x = some (.builtin id)) (ha : VA X G (e :: es) ta t) (hg : Gl X x := by rfl) (hn : x ≠ "__name__" := by decide) (hdb : (x == ("__debug__" : Str)) = false := by decide)
    (he : starEach (e :: es) X.env = (false, eval e X.env) :: starEach es X.env := by rfl) (hpl : (backTo pos (starEach es X.env)).any (·.1) = false := by rfl) : VE X G (.Call (.Name x p) (e :: es) [] pos) (tCB r ta) (calV op t) :=
  ⟨pe_callB hc hg hm hv ha.pe hn hdb he hpl, snd_cal ho ha.sn⟩
theorem ve_callTy {T : String} (ho : SndC G r op) (hc : CallR X (.type T) r) (hm : X.mg x = none) (hv : bootBuiltins x = some (.type T)) (ha : VA X G (e :: es) ta t) (hg : Gl X x := by rfl) (hn : x ≠ "__name__" := by decide) (hdb : (x == ("__debug__" : Str)) = false := by decide)
    (he : starEach (e :: es) X.env = (false, eval e X.env) :: starEach es X.env := by rfl) (hpl : (backTo pos (starEach es X.env)).any (·.1) = false := by rfl) : VE X G (.Call (.Name x p) (e :: es) [] pos) (tCB r ta) (calV op t) :=
  ⟨pe_callTy hc hg hm hv ha.pe hn hdb he hpl, snd_cal ho ha.sn⟩
end
def lenC : List Va → (Va → Prop) → Prop := fun vas Q => match vas with
  | [x] => match x.rd with
    | .list ds => Q (.fz (.int ds.length))
    | .tuple ds => Q (.fz (.int ds.length))
    | _ => False
  | _ => False
theorem sc_len {K : PySem.W.Frag} {G : Gd K} : SndC G (fun xs H Q => ∃ p ys, xs = [.ref p] ∧ (SqL K H p ys ∨ SqT K H p ys) ∧ Q (.int ys.length) H) lenC := by
  intro Hs Hf H vs vas Qd Q g r q k
  unfold lenC at q
  split at q
  · cases r with
    | cons r1 r2 =>
      cases r2
      split at q
      · rename_i ds hd
        obtain ⟨a, xs, rfl, h1, h2⟩ := r1.lst g hd
        exact ⟨a, xs, rfl, .inl (SqL.of h1), by rw [h2.length]; exact k.flat g q (.int _)⟩
      · rename_i ds hd
        obtain ⟨a, xs, rfl, h1, h2⟩ := r1.tup g hd
        exact ⟨a, xs, rfl, .inr (SqT.mono g.sub h1), by rw [h2.length]; exact k.flat g q (.int _)⟩
      · exact q.elim
  · exact q.elim
def listC : List Va → (Va → Prop) → Prop := fun vas Q => match vas with
  | [x] => match x.rd with
    | .list ds => Q (.nw ds)
    | .tuple ds => Q (.nw ds)
    | _ => False
  | _ => False
theorem sc_list {K : PySem.W.Frag} {G : Gd K} : SndC G (fun xs H Q => ∃ p ys, xs = [.ref p] ∧ (SqL K H p ys ∨ SqT K H p ys) ∧ ∀ l, H l = none → Q (.ref l) (upd H l (.lst ys))) listC := by
  intro Hs Hf H vs vas Qd Q g r q k
  unfold listC at q
  split at q
  · cases r with
    | cons r1 r2 =>
      cases r2
      split at q
      · rename_i ds hd
        obtain ⟨a, xs, rfl, h1, h2⟩ := r1.lst g hd
        exact ⟨a, xs, rfl, .inl (SqL.of h1), fun p hp => k.lst g q h2 hp⟩
      · rename_i ds hd
        obtain ⟨a, xs, rfl, h1, h2⟩ := r1.tup g hd
        exact ⟨a, xs, rfl, .inr (SqT.mono g.sub h1), fun p hp => k.lst g q h2 hp⟩
      · exact q.elim
  · exact q.elim
def tupC : List Va → (Va → Prop) → Prop := fun vas Q => match vas with
  | [x] => match x.rd with
    | .list ds => Q (.fz (.tuple ds))
    | .tuple ds => Q (.fz (.tuple ds))
    | _ => False
  | _ => False
theorem sc_tup {K : PySem.W.Frag} {G : Gd K} : SndC G (fun xs H Q => ∃ p ys, xs = [.ref p] ∧ ((SqL K H p ys ∧ ∀ l, H l = none → Q (.ref l) (upd H l (.tup ys))) ∨ (SqT K H p ys ∧ Q (.ref p) H))) tupC := by
  intro Hs Hf H vs vas Qd Q g r q k
  unfold tupC at q
  split at q
  · cases r with
    | cons r1 r2 =>
      cases r2
      split at q
      · rename_i ds hd
        obtain ⟨a, xs, rfl, h1, h2⟩ := r1.lst g hd
        exact ⟨a, xs, rfl, .inl ⟨SqL.of h1, fun p hp => k.tup g q h2 hp⟩⟩
      · rename_i ds hd
        obtain ⟨a, xs, rfl, h1, h2⟩ := r1.tup g hd
        exact ⟨a, xs, rfl, .inr ⟨SqT.mono g.sub h1, k.flat g q (.tup h1 h2)⟩⟩
      · exact q.elim
  · exact q.elim
def intC : List Va → (Va → Prop) → Prop := fun vas Q => match vas with
  | [x] => match x.rd with
    | .int i => Q (.fz (.int i))
    | .bool b => Q (.fz (.int (if b then 1 else 0)))
    | _ => False
  | _ => False
theorem sc_int {K : PySem.W.Frag} {G : Gd K} : SndC G (fun xs H Q => (∃ i, xs = [.int i] ∧ Q (.int i) H) ∨ ∃ k, xs = [.bl k] ∧ Q (.int (if k then 1 else 0)) H) intC := by
  intro Hs Hf H vs vas Qd Q g r q k
  unfold intC at q
  split at q
  · cases r with
    | cons r1 r2 =>
      cases r2
      split at q
      · rename_i i hd
        exact .inl ⟨i, by rw [r1.int hd], k.flat g q (.int _)⟩
      · rename_i i hd
        exact .inr ⟨i, by rw [r1.bl hd], k.flat g q (.int _)⟩
      · exact q.elim
  · exact q.elim
def int1C (f : Int → Int) : List Va → (Va → Prop) → Prop := fun vas Q => match vas with
  | [x] => match x.rd with
    | .int i => Q (.fz (.int (f i)))
    | _ => False
  | _ => False
theorem sc_int1 {K : PySem.W.Frag} {G : Gd K} {f : Int → Int} : SndC G (fun xs H Q => ∃ i, xs = [.int i] ∧ Q (.int (f i)) H) (int1C f) := by
  intro Hs Hf H vs vas Qd Q g r q k
  unfold int1C at q
  split at q
  · cases r with
    | cons r1 r2 =>
      cases r2
      split at q
      · rename_i i hd
        exact ⟨i, by rw [r1.int hd], k.flat g q (.int _)⟩
      · exact q.elim
  · exact q.elim
def int2C (f : Int → Int → Int) : List Va → (Va → Prop) → Prop := fun vas Q => match vas with
  | [x, y] => match x.rd, y.rd with
    | .int i, .int j => Q (.fz (.int (f i j)))
    | _, _ => False
  | _ => False
theorem sc_int2 {K : PySem.W.Frag} {G : Gd K} {f : Int → Int → Int} : SndC G (fun xs H Q => ∃ i j, xs = [.int i, .int j] ∧ Q (.int (f i j)) H) (int2C f) := by
  intro Hs Hf H vs vas Qd Q g r q k
  unfold int2C at q
  split at q
  · cases r with
    | cons r1 r2 =>
      cases r2 with
      | cons r2 r3 =>
        cases r3
        split at q
        · rename_i i j hi hj
          exact ⟨i, j, by rw [r1.int hi, r2.int hj], k.flat g q (.int _)⟩
        · exact q.elim
  · exact q.elim

/-! ### repr -/
/-- what can be shown: ints below 2 ^ 1920, a text within the line -/
def shows (d : PyData) : Prop := d.showable = true ∧ d.hasDict = false ∧ d.depth ≤ 40 ∧ d.shown.length ≤ sizeLine
def reprC : List Va → (Va → Prop) → Prop := fun vas Q => match vas with
  | [x] => match x.rd with
    | .int i => i.natAbs.log2 < 1920 ∧ Q (.fz (.str (toString i)))
    | .list ds => shows (.list ds) ∧ Q (.fz (.str (PyData.shown (.list ds))))
    | .tuple ds => shows (.tuple ds) ∧ Q (.fz (.str (PyData.shown (.tuple ds))))
    | _ => False
  | _ => False
def rReprD (K : PySem.W.Frag) : List V → Hp → VK → Prop := fun vs H Q => ∃ (p : Addr) (d : PyData), vs = [.ref p] ∧ Dp K H (.ref p) d ∧ shows d ∧ Q (.str d.shown) H
theorem cr_reprD {X : Cx} {k : Nat} (hr : Room k X.A) (hgd : X.A.guards = some []) : CallR X (.builtin "repr") (rReprD X.K) := by
  intro pins s σ H vs us Q I r h
  obtain ⟨p, d, rfl, hd, ⟨h1, h2, h3, h4⟩, q⟩ := h
  rw [Vals.ref1 r]
  obtain ⟨as, rd⟩ := Dp.reads I d _ _ hd (rfl : RelV (.ref p) (.ref p))
  refine repr_of_reads' rd h1 (PyData.noDict_hsm h2) hgd (by have := hr.units; omega) (fun _ _ e => e) (fun h' u tk hk => ?_) h4
  exact ⟨.str d.shown, H, I.kept hk, ⟨u, rfl⟩, q⟩
def rReprA (K : PySem.W.Frag) : List V → Hp → VK → Prop := fun vs H Q => (∃ i, vs = [.int i] ∧ i.natAbs.log2 < 1920 ∧ Q (.str (toString i)) H) ∨ rReprD K vs H Q
theorem sc_repr {K : PySem.W.Frag} {G : Gd K} : SndC G (rReprA K) reprC := by
  intro Hs Hf H vs vas Qd Q g r q k
  unfold reprC at q
  split at q
  · cases r with
    | cons r1 r2 =>
      cases r2
      split at q
      · rename_i i hd
        exact .inl ⟨i, by rw [r1.int hd], q.1, k.flat g q.2 (.str _)⟩
      · rename_i ds hd
        have hq := r1.dq g (fun kvs e => by rw [hd] at e; cases e)
        rw [hd] at hq
        obtain ⟨a, xs, rfl, h1, h2⟩ := r1.lst g hd
        exact .inr ⟨a, .list ds, rfl, hq.dp, q.1, k.flat g q.2 (.str _)⟩
      · rename_i ds hd
        have hq := r1.dq g (fun kvs e => by rw [hd] at e; cases e)
        rw [hd] at hq
        obtain ⟨a, xs, rfl, h1, h2⟩ := r1.tup g hd
        exact .inr ⟨a, .tuple ds, rfl, hq.dp, q.1, k.flat g q.2 (.str _)⟩
      · exact q.elim
  · exact q.elim
end TR

namespace TR
open PySem L2 PySem.Spec PyProof.Rows

/-! ### defs under an open sky: no repr is under way around a call -/
structure Rm (k : Nat) (A : Around) : Prop where
  room : Room k A
  sky : A.guards = some []
theorem Rm.mono {j k : Nat} {A : Around} (r : Rm k A) (h : j ≤ k) : Rm j A := ⟨r.room.mono h, r.sky⟩
/-- a def keeps its promise, called under an open sky -/
structure FnG (P : Program) (w : World) (K : PySem.W.Frag) (mg : Str → Option Value) (base : Heap) (CX : CXT) (k : Nat) (f : Addr) (fd : FuncData) (ps : List Str) (sp : Sp) : Prop where
  ar : ∀ vs H Q E, sp vs H Q E → vs.length = ps.length
  go : ∀ (A : Around) (out : List Env) (s : Shared) (H : Hp) (ag : Args) (us : List Value) (vs : List V) (Q : VK) (E : XK), Rm k A → Env0 P w K mg base A out s H →
    BindsTo s fd ag (ps.zip us) → Vals vs us → sp vs H Q E → codeAny (model P w) A (.call (.ref f) ag) (CR CX out P w H s Q E) s
theorem FnG.up {P : Program} {w : World} {K : PySem.W.Frag} {mg : Str → Option Value} {base : Heap} {CX : CXT} {j k : Nat} {f : Addr} {fd : FuncData} {ps : List Str} {sp : Sp}
    (F : FnG P w K mg base CX j f fd ps sp) (h : j ≤ k) : FnG P w K mg base CX k f fd ps sp :=
  ⟨F.ar, fun A out s H ag us vs Q E r => F.go A out s H ag us vs Q E (r.mono h)⟩

def pick {α : Type} (ix : List Nat) (l : List α) : List α := ix.filterMap (l[·]?)
theorem Vals.pick {vs : List V} {us : List Value} (r : Vals vs us) : ∀ ix : List Nat, Vals (TR.pick ix vs) (TR.pick ix us)
  | [] => .nil
  | i :: ix => by
    have ih := Vals.pick r ix
    unfold TR.pick at ih ⊢
    rw [List.filterMap_cons, List.filterMap_cons]
    cases e : vs[i]? with
    | none => rw [Vals.none_of r e]; exact ih
    | some v =>
      obtain ⟨u, e2, q⟩ := Vals.get r e
      rw [e2]
      exact .cons q ih
/-- how n values and the keywords ks come to the parameters -/
def KB (fd : FuncData) (ps ks : List Str) (n : Nat) (ix : List Nat) : Prop :=
  ∀ (s : Shared) (us ws : List Value), us.length = n → ws.length = ks.length → BindsTo s fd ⟨us, ks.zip ws⟩ (ps.zip (pick ix (us ++ ws)))

section
variable {X : Cx} {CX : CXT} {k : Nat} {f : Addr} {fd : FuncData} {ps ks : List Str} {sp : Sp} {E : XK} {x : Str} {p pos : Pos} {e : Expr} {es : List Expr} {kws : List Keyword} {t tk : TA} {n : Nat} {ix : List Nat}
/-- how a call ends for its caller -/
theorem end_g {pins : List (Addr × Obj)} {σ : L2.St} {H : Hp} {s s' : Shared} {Q : VK} {r : Result} (hx : Passes CX X E) (I : Inv X pins σ H s) (h : CR CX X.stack X.prog X.w H s Q E r s') :
    callEnd (EP X pins σ Q) X.xe r s' := by
  match r, h with
  | .error er, h => exact hx pins σ H s er s' I h
  | .ok (.ret u), h => exact I.after h
  | .ok .next, h => exact h.elim
  | .ok .brk, h => exact h.elim
  | .ok .cont, h => exact h.elim
theorem run_g {pins : List (Addr × Obj)} {σ : L2.St} {H : Hp} {s : Shared} {Q : VK} {us ws : List Value} {vs : List V} {ag : List (Str × Value)} (F : FnG X.prog X.w X.K X.mg X.base CX k f fd ps sp) (hr : Rm k X.A) (hx : Passes CX X E)
    (I : Inv X pins σ H s) (hb : BindsTo s fd ⟨us, ag⟩ (ps.zip ws)) (r : Vals vs ws) (h : sp vs H Q E) : wpAny (model X.prog X.w) X.A (call (.ref f) us ag) (EP X pins σ Q) X.xe s :=
  wpAny_call (codeAny_mono (F.go X.A X.stack s H ⟨us, ag⟩ ws vs Q E hr I.env0 hb r h) fun _ _ q => end_g hx I q)
def tCallG (n m : Nat) (sp : Sp) (ix : List Nat) (E : XK) (t tk : TA) : TE := fun σ H Q => t σ H fun vs H1 => tk σ H1 fun zs H2 => vs.length = n ∧ zs.length = m ∧ sp (pick ix (vs ++ zs)) H2 Q E
theorem pe_g (F : FnG X.prog X.w X.K X.mg X.base CX k f fd ps sp) (hr : Rm k X.A) (hm : X.mg x = some (.ref f)) (hk : PySem.W.keepIn X.K (.ref f) = true) (hb : Binds X.K fd ps []) (hx : Passes CX X E) (hg : Gl X x)
    (ha : PA X (e :: es) t) (hdb : (x == ("__debug__" : Str)) = false := by decide) (he : starEach (e :: es) X.env = (false, eval e X.env) :: starEach es X.env := by rfl) (hpl : (backTo pos (starEach es X.env)).any (·.1) = false := by rfl) :
    PE X (.Call (.Name x p) (e :: es) [] pos) (tCall sp [] E t) := by
  refine ⟨fun pins s σ H Q I h => wpAny_Call_Name_kw (ld_glob I hg hm ?_ hdb)⟩
  refine PySem.W.callWith_K I.ok.mod.kin hk (thn (ha.run pos pins s σ H _ I h) fun us s1 hq => ?_) he hpl
  obtain ⟨vs, H1, I1, r, q⟩ := hq
  rw [List.append_nil] at q
  have hl : us.length = ps.length := by rw [← r.length]; exact F.ar _ _ _ _ q
  have hb' := hb s1 us I1.kIn (by rw [List.append_nil]; exact hl)
  rw [List.append_nil] at hb'
  exact ⟨I1.kIn, run_g F hr hx I1 hb' r q⟩
theorem pe_g0 (F : FnG X.prog X.w X.K X.mg X.base CX k f fd ps sp) (hr : Rm k X.A) (hm : X.mg x = some (.ref f)) (hk : PySem.W.keepIn X.K (.ref f) = true) (hb : Binds X.K fd ps []) (hx : Passes CX X E) (hg : Gl X x)
    (hdb : (x == ("__debug__" : Str)) = false := by decide) : PE X (.Call (.Name x p) [] [] pos) (tCall sp [] E tNil) := by
  refine ⟨fun pins s σ H Q I h => wpAny_Call_Name_kw (ld_glob I hg hm ?_ hdb)⟩
  have h' : sp [] H Q E := h
  have hl : ([] : List Value).length = ps.length := F.ar _ _ _ _ h'
  have hb' := hb s [] I.kIn (by rw [List.append_nil]; exact hl)
  exact PySem.W.callWith_K0 I.kIn hk (run_g (us := []) F hr hx I hb' .nil h')
theorem pe_gK (F : FnG X.prog X.w X.K X.mg X.base CX k f fd ps sp) (hr : Rm k X.A) (hm : X.mg x = some (.ref f)) (hk : PySem.W.keepIn X.K (.ref f) = true) (hb : KB fd ps ks n ix) (hx : Passes CX X E) (hg : Gl X x)
    (ha : PA X (e :: es) t) (hkw : PK X kws tk) (hall : (backToKw pos (keywordEach kws X.env)).all (·.1.isSome) = true := by rfl) (hks : (backToKw pos (keywordEach kws X.env)).filterMap (·.1) = ks := by rfl)
    (hdb : (x == ("__debug__" : Str)) = false := by decide) (he : starEach (e :: es) X.env = (false, eval e X.env) :: starEach es X.env := by rfl)
    (hpl : ((backTo pos (starEach (e :: es) X.env)).any (·.1) || (backToKw pos (keywordEach kws X.env)).any (·.1.isNone)) = false := by rfl) :
    PE X (.Call (.Name x p) (e :: es) kws pos) (tCallG n ks.length sp ix E t tk) := by
  refine ⟨fun pins s σ H Q I h => wpAny_Call_Name_kw (ld_glob I hg hm ?_ hdb)⟩
  refine PySem.W.callWith_KW I.ok.mod.kin hk hall (thn (ha.run pos pins s σ H _ I h) fun us s1 hq => ?_) hpl he
  obtain ⟨vs, H1, I1, r, q⟩ := hq
  refine thn (hkw.run pos pins s1 σ H1 _ I1 q) fun ws s2 hq2 => ?_
  obtain ⟨zs, H2, I2, rz, l1, l2, q2⟩ := hq2
  refine ⟨I2.kIn, ?_⟩
  rw [hks]
  exact run_g F hr hx I2 (hb s2 us ws (by rw [← r.length]; exact l1) (by rw [← rz.length]; exact l2)) (Vals.pick (r.append rz) ix) q2
theorem pe_gK0 (F : FnG X.prog X.w X.K X.mg X.base CX k f fd ps sp) (hr : Rm k X.A) (hm : X.mg x = some (.ref f)) (hk : PySem.W.keepIn X.K (.ref f) = true) (hb : KB fd ps ks 0 ix) (hx : Passes CX X E) (hg : Gl X x)
    (hkw : PK X kws tk) (hall : (backToKw pos (keywordEach kws X.env)).all (·.1.isSome) = true := by rfl) (hks : (backToKw pos (keywordEach kws X.env)).filterMap (·.1) = ks := by rfl)
    (hdb : (x == ("__debug__" : Str)) = false := by decide)
    (hpl : ((backTo pos (starEach [] X.env)).any (·.1) || (backToKw pos (keywordEach kws X.env)).any (·.1.isNone)) = false := by rfl) :
    PE X (.Call (.Name x p) [] kws pos) (tCallG 0 ks.length sp ix E tNil tk) := by
  refine ⟨fun pins s σ H Q I h => wpAny_Call_Name_kw (ld_glob I hg hm ?_ hdb)⟩
  refine PySem.W.callWith_KW0 I.ok.mod.kin hk hall (thn (hkw.run pos pins s σ H _ I h) fun ws s2 hq2 => ?_) hpl
  obtain ⟨zs, H2, I2, rz, l1, l2, q2⟩ := hq2
  refine ⟨I2.kIn, ?_⟩
  rw [hks]
  exact run_g F hr hx I2 (hb s2 [] ws rfl (by rw [← rz.length]; exact l2)) (Vals.pick (L2.Vals.append .nil rz) ix) q2
end

/-! ### promises over data -/
def Va.ret : Va → Prop
  | .fz _ => True
  | .nw _ => True
  | _ => False
def liftSp {K : PySem.W.Frag} (G : Gd K) (sp : List Va → (Va → Prop) → Prop) : Sp := fun vs H Q _ => ∃ (Hs Hf : Hp) (vas : List Va) (Qd : Va → Prop), Good G Hf H ∧ RVs G Hs Hf H vs vas ∧ sp vas Qd ∧
  ∀ va v Hf' H', Qd va → va.ret → Good G Hf' H' → Ext G Hf H Hf' H' → RV G H Hf' H' v va → Q v H'
/-- whatever the deck is -/
def liftAny {K : PySem.W.Frag} (Fm : Gd K → Prop) (sp : List Va → (Va → Prop) → Prop) : Sp := fun vs H Q E => ∃ G : Gd K, Fm G ∧ liftSp G sp vs H Q E
abbrev FnV (P : Program) (w : World) (mg : Str → Option Value) (base : Heap) (K : PySem.W.Frag) (Fm : Gd K → Prop) (k : Nat) (f : Addr) (fd : FuncData) (ps : List Str) (sp : List Va → (Va → Prop) → Prop) : Prop :=
  FnG P w K mg base CX0 k f fd ps (liftAny Fm sp)
def callV (sp : List Va → (Va → Prop) → Prop) (t : VTA) : VTE := fun ρ Q => t ρ fun vas => sp vas fun va => va.ret → Q va
def callKV (n m : Nat) (sp : List Va → (Va → Prop) → Prop) (ix : List Nat) (t tk : VTA) : VTE := fun ρ Q => t ρ fun vas => tk ρ fun was => vas.length = n ∧ was.length = m ∧ sp (pick ix (vas ++ was)) fun va => va.ret → Q va
theorem RVs.append {K : PySem.W.Frag} {G : Gd K} {Hs Hf H : Hp} : ∀ {vs ws : List V} {vas was : List Va}, RVs G Hs Hf H vs vas → RVs G Hs Hf H ws was → RVs G Hs Hf H (vs ++ ws) (vas ++ was)
  | _, _, _, _, .nil, s => s
  | _, _, _, _, .cons r t, s => .cons r (RVs.append t s)
theorem RVs.get {K : PySem.W.Frag} {G : Gd K} {Hs Hf H : Hp} : ∀ {vs : List V} {vas : List Va} {i : Nat} {va : Va}, RVs G Hs Hf H vs vas → vas[i]? = some va → ∃ v, vs[i]? = some v ∧ RV G Hs Hf H v va
  | _, _, _, _, .nil, e => by simp at e
  | _, _, 0, _, .cons r _, e => by cases e; exact ⟨_, rfl, r⟩
  | _, _, i + 1, va, .cons _ t, e => RVs.get (i := i) (va := va) t e
theorem RVs.pick {K : PySem.W.Frag} {G : Gd K} {Hs Hf H : Hp} {vs : List V} {vas : List Va} (r : RVs G Hs Hf H vs vas) : ∀ ix : List Nat, RVs G Hs Hf H (TR.pick ix vs) (TR.pick ix vas)
  | [] => .nil
  | i :: ix => by
    have ih := RVs.pick r ix
    unfold TR.pick at ih ⊢
    rw [List.filterMap_cons, List.filterMap_cons]
    cases e : vas[i]? with
    | none =>
      have h1 : vas.length ≤ i := List.getElem?_eq_none_iff.mp e
      rw [List.getElem?_eq_none_iff.mpr (by rw [r.length]; exact h1)]
      exact ih
    | some v =>
      obtain ⟨u, e2, q⟩ := RVs.get r e
      rw [e2]
      exact .cons q ih
section
variable {X : Cx} {K : PySem.W.Frag} {G : Gd K} {k : Nat} {f : Addr} {fd : FuncData} {ps ks : List Str} {sp : List Va → (Va → Prop) → Prop} {x : Str} {p pos : Pos} {e : Expr} {es : List Expr} {kws : List Keyword} {ta tk : TA} {t u : VTA} {n m : Nat} {ix : List Nat}
theorem snd_call {Fm : Gd K → Prop} (hG : Fm G) (ha : SndA G ta t) : SndE G (tCall (liftAny Fm sp) [] E0 ta) (callV sp t) := by
  intro Hf0 H0 α σ ρ Hf H Qd Q R ht kk
  refine ha Hf0 H0 α σ ρ Hf H _ _ R ht fun vas vs Hf1 H1 q1 g1 e1 r1 => ?_
  rw [List.append_nil]
  refine ⟨G, hG, H, Hf1, vas, _, g1, r1, q1, fun va v Hf' H' q rt g' e' r' => ?_⟩
  exact Post.at R.good e1 kk va v Hf' H' (q rt) g' e' r'
theorem snd_callK {Fm : Gd K → Prop} (hG : Fm G) (ha : SndA G ta t) (hk : SndA G tk u) : SndE G (tCallG n m (liftAny Fm sp) ix E0 ta tk) (callKV n m sp ix t u) := by
  intro Hf0 H0 α σ ρ Hf H Qd Q R ht kk
  refine ha Hf0 H0 α σ ρ Hf H _ _ R ht fun vas vs Hf1 H1 q1 g1 e1 r1 => ?_
  refine hk Hf0 H0 α σ ρ Hf1 H1 _ _ (R.step g1 e1) q1 fun was zs Hf2 H2 q2 g2 e2 r2 => ?_
  obtain ⟨l1, l2, q2⟩ := q2
  have r3 := (r1.step e2).append (r2.back e1)
  refine ⟨by rw [r1.length]; exact l1, by rw [r2.length]; exact l2, G, hG, H, Hf2, _, _, g2, r3.pick ix, q2, fun va v Hf' H' q rt g' e' r' => ?_⟩
  exact Post.at R.good (Ext.trans R.good g2 e1 e2) kk va v Hf' H' (q rt) g' e' r'
theorem ve_call {Fm : Gd K → Prop} (hG : Fm G) (F : FnG X.prog X.w X.K X.mg X.base CX0 k f fd ps (liftAny Fm sp)) (hr : Rm k X.A) (hm : X.mg x = some (.ref f)) (hk : PySem.W.keepIn X.K (.ref f) = true) (hb : Binds X.K fd ps []) (ha : VA X G (e :: es) ta t) (hg : Gl X x := by rfl)
    (hdb : (x == ("__debug__" : Str)) = false := by decide) (he : starEach (e :: es) X.env = (false, eval e X.env) :: starEach es X.env := by rfl) (hpl : (backTo pos (starEach es X.env)).any (·.1) = false := by rfl) :
    VE X G (.Call (.Name x p) (e :: es) [] pos) (tCall (liftAny Fm sp) [] E0 ta) (callV sp t) := ⟨pe_g F hr hm hk hb pass0 hg ha.pe hdb he hpl, snd_call hG ha.sn⟩
theorem ve_call0 {Fm : Gd K → Prop} (hG : Fm G) (F : FnG X.prog X.w X.K X.mg X.base CX0 k f fd ps (liftAny Fm sp)) (hr : Rm k X.A) (hm : X.mg x = some (.ref f)) (hk : PySem.W.keepIn X.K (.ref f) = true) (hb : Binds X.K fd ps []) (hg : Gl X x := by rfl)
    (hdb : (x == ("__debug__" : Str)) = false := by decide) : VE X G (.Call (.Name x p) [] [] pos) (tCall (liftAny Fm sp) [] E0 tNil) (callV sp nilA) := ⟨pe_g0 F hr hm hk hb pass0 hg hdb, snd_call hG (va_nil (X := X)).sn⟩
/-- keywords -/
structure VK (X : Cx) {K : PySem.W.Frag} (G : Gd K) (kws : List Keyword) (ta : TA) (t : VTA) : Prop where
  pe : PK X kws ta
  sn : SndA G ta t
theorem vk_nil : TR.VK X G [] tNil nilA := ⟨pk_nil, (va_nil (X := X)).sn⟩
theorem vk_arg {te : TE} {s : VTE} {nm : Option Str} {kpos : Pos} (h : VE X G e te s) (hr : TR.VK X G kws ta t) : TR.VK X G (⟨nm, e, kpos⟩ :: kws) (tCons te ta) (consA (argV s) t) := ⟨pk_cons h.pe hr.pe, snd_cons (snd_arg h.sn) hr.sn⟩
theorem ve_callK {Fm : Gd K → Prop} (hG : Fm G) (F : FnG X.prog X.w X.K X.mg X.base CX0 k f fd ps (liftAny Fm sp)) (hr : Rm k X.A) (hm : X.mg x = some (.ref f)) (hk : PySem.W.keepIn X.K (.ref f) = true) (hb : KB fd ps ks n ix) (ha : VA X G (e :: es) ta t) (hkw : TR.VK X G kws tk u) (hg : Gl X x := by rfl)
    (hall : (backToKw pos (keywordEach kws X.env)).all (·.1.isSome) = true := by rfl) (hks : (backToKw pos (keywordEach kws X.env)).filterMap (·.1) = ks := by rfl)
    (hdb : (x == ("__debug__" : Str)) = false := by decide) (he : starEach (e :: es) X.env = (false, eval e X.env) :: starEach es X.env := by rfl)
    (hpl : ((backTo pos (starEach (e :: es) X.env)).any (·.1) || (backToKw pos (keywordEach kws X.env)).any (·.1.isNone)) = false := by rfl) :
    VE X G (.Call (.Name x p) (e :: es) kws pos) (tCallG n ks.length (liftAny Fm sp) ix E0 ta tk) (callKV n ks.length sp ix t u) := ⟨pe_gK F hr hm hk hb pass0 hg ha.pe hkw.pe hall hks hdb he hpl, snd_callK hG ha.sn hkw.sn⟩
theorem ve_callK0 {Fm : Gd K → Prop} (hG : Fm G) (F : FnG X.prog X.w X.K X.mg X.base CX0 k f fd ps (liftAny Fm sp)) (hr : Rm k X.A) (hm : X.mg x = some (.ref f)) (hk : PySem.W.keepIn X.K (.ref f) = true) (hb : KB fd ps ks 0 ix) (hkw : TR.VK X G kws tk u) (hg : Gl X x := by rfl)
    (hall : (backToKw pos (keywordEach kws X.env)).all (·.1.isSome) = true := by rfl) (hks : (backToKw pos (keywordEach kws X.env)).filterMap (·.1) = ks := by rfl)
    (hdb : (x == ("__debug__" : Str)) = false := by decide)
    (hpl : ((backTo pos (starEach [] X.env)).any (·.1) || (backToKw pos (keywordEach kws X.env)).any (·.1.isNone)) = false := by rfl) :
    VE X G (.Call (.Name x p) [] kws pos) (tCallG 0 ks.length (liftAny Fm sp) ix E0 tNil tk) (callKV 0 ks.length sp ix nilA u) := ⟨pe_gK0 F hr hm hk hb pass0 hg hkw.pe hall hks hdb hpl, snd_callK hG (va_nil (X := X)).sn hkw.sn⟩
end
end TR

namespace TR
open PySem L2 PySem.Spec PyProof.Rows

/-! ### slots -/
section
variable {K : PySem.W.Frag} {G : Gd K} {Hf0 H0 : Hp} {α : Nat → Addr} {σ : L2.St} {ρ : List Sl} {Hf H Hf' H' : Hp} {i : Nat}
theorem SlR.other {j : Nat} {s : Sl} {v : Option V} (h : SlR G Hf0 H0 α σ Hf H j s) (hj : i ≠ j) : SlR G Hf0 H0 α (σ.set i v) Hf H j s := by
  have e : (σ.set i v)[j]? = σ[j]? := List.getElem?_set_ne hj
  cases s with
  | un => trivial
  | fz d => obtain ⟨w, h1, h2⟩ := h; exact ⟨w, by rw [e]; exact h1, h2⟩
  | ow ds => obtain ⟨h1, h2⟩ := h; exact ⟨by rw [e]; exact h1, h2⟩
  | br ds => obtain ⟨a, vs, h1, h2⟩ := h; exact ⟨a, vs, by rw [e]; exact h1, h2⟩
  | dk => exact (show (σ.set i v)[j]? = _ by rw [e]; exact h)
/-- a slot gets data -/
theorem Rel.setFz (r : Rel G Hf0 H0 α σ ρ Hf H) {v : V} {d : PyData} (q : Dq K Hf v d) : Rel G Hf0 H0 α (σ.set i (some v)) (ρ.set i (.fz d)) Hf H := by
  refine ⟨r.good0, r.good, r.ext, by rw [List.length_set, List.length_set]; exact r.len, fun j s h => ?_, fun j l ds es h1 h2 e => ?_⟩
  · by_cases hij : i = j
    · subst hij
      rw [List.getElem?_set_self'] at h
      cases e : ρ[i]? with
      | none => rw [e] at h; cases h
      | some s0 =>
        rw [e] at h
        cases h
        have hl : i < σ.length := by
          rw [r.len]
          exact (List.getElem?_eq_some_iff.mp e).1
        exact ⟨v, by rw [List.getElem?_set_self hl], q⟩
    · rw [List.getElem?_set_ne hij] at h
      exact (r.sl j s h).other hij
  · have n1 : i ≠ j := fun z => by
      subst z
      rw [List.getElem?_set_self'] at h1
      cases e : ρ[i]? with
      | none => rw [e] at h1; cases h1
      | some s0 => rw [e] at h1; cases h1
    have n2 : i ≠ l := fun z => by
      subst z
      rw [List.getElem?_set_self'] at h2
      cases e : ρ[i]? with
      | none => rw [e] at h2; cases h2
      | some s0 => rw [e] at h2; cases h2
    rw [List.getElem?_set_ne n1] at h1
    rw [List.getElem?_set_ne n2] at h2
    exact r.inj j l ds es h1 h2 e
/-- a slot is forgotten -/
theorem Rel.wipe (r : Rel G Hf0 H0 α σ ρ Hf H) : Rel G Hf0 H0 α (σ.set i none) (ρ.set i .un) Hf H := by
  refine ⟨r.good0, r.good, r.ext, by rw [List.length_set, List.length_set]; exact r.len, fun j s h => ?_, fun j l ds es h1 h2 e => ?_⟩
  · by_cases hij : i = j
    · subst hij
      rw [List.getElem?_set_self'] at h
      cases e : ρ[i]? with
      | none => rw [e] at h; cases h
      | some s0 => rw [e] at h; cases h; trivial
    · rw [List.getElem?_set_ne hij] at h
      exact (r.sl j s h).other hij
  · have n1 : i ≠ j := fun z => by
      subst z
      rw [List.getElem?_set_self'] at h1
      cases e : ρ[i]? with
      | none => rw [e] at h1; cases h1
      | some s0 => rw [e] at h1; cases h1
    have n2 : i ≠ l := fun z => by
      subst z
      rw [List.getElem?_set_self'] at h2
      cases e : ρ[i]? with
      | none => rw [e] at h2; cases h2
      | some s0 => rw [e] at h2; cases h2
    rw [List.getElem?_set_ne n1] at h1
    rw [List.getElem?_set_ne n2] at h2
    exact r.inj j l ds es h1 h2 e
def wipeV (ρ : List Sl) : List Nat → List Sl
  | [] => ρ
  | v :: vs => (wipeV ρ vs).set v .un
theorem Rel.wipes (r : Rel G Hf0 H0 α σ ρ Hf H) : ∀ vs : List Nat, Rel G Hf0 H0 α (L2.wipe σ vs) (wipeV ρ vs) Hf H
  | [] => r
  | v :: vs => (Rel.wipes r vs).wipe
/-- an owned list is changed -/
theorem Rel.mutate (r : Rel G Hf0 H0 α σ ρ Hf H) {ds es : List PyData} {vs : List V} (hi : ρ[i]? = some (.ow ds)) (q : DqL K Hf vs es) :
    Rel G Hf0 H0 α σ (ρ.set i (.ow es)) Hf (upd H (α i) (.lst vs)) := by
  obtain ⟨s1, s2, s3, ws, s4, s5⟩ := r.sl i _ hi
  have hF := (off_some s4).1
  have hoff : ∀ b, b ≠ α i → off G (upd H (α i) (.lst vs)) b = off G H b := fun b nb => by
    unfold off
    rw [upd_ne nb]
  refine ⟨r.good0, ⟨r.good.ok, fun b o e => ?_, r.good.nf, r.good.ok.loc H _ (fun b hb => ?_) r.good.res⟩, ⟨r.ext.fz, fun b o e => ?_, r.ext.nw⟩, by rw [List.length_set]; exact r.len, fun j s h => ?_, fun j l as bs h1 h2 e => ?_⟩
  · have nb : b ≠ α i := fun z => by subst z; rw [s3] at e; cases e
    rw [upd_ne nb]
    exact r.good.sub b o e
  · have nb : b ≠ α i := fun z => by subst z; rw [hF] at hb; cases hb
    rw [upd_ne nb]
  · have nb : b ≠ α i := fun z => by subst z; rw [(off_some e).2] at s2; cases s2
    rw [hoff b nb]
    exact r.ext.kp b o e
  · by_cases hij : i = j
    · subst hij
      rw [List.getElem?_set_self', hi] at h
      cases h
      exact ⟨s1, s2, s3, vs, by rw [off_of hF, upd_same], q⟩
    · rw [List.getElem?_set_ne hij] at h
      have t := r.sl j s h
      cases s with
      | un => trivial
      | fz d => exact t
      | ow bs =>
        obtain ⟨t1, t2, t3, us, t4, t5⟩ := t
        have nb : α j ≠ α i := fun z => hij (r.inj i j ds bs hi h z.symm)
        exact ⟨t1, t2, t3, us, by rw [hoff _ nb]; exact t4, t5⟩
      | br bs => exact t
      | dk => exact t
  · have k1 : ∃ as', ρ[j]? = some (.ow as') := by
      by_cases hij : i = j
      · subst hij; exact ⟨ds, hi⟩
      · rw [List.getElem?_set_ne hij] at h1; exact ⟨as, h1⟩
    have k2 : ∃ as', ρ[l]? = some (.ow as') := by
      by_cases hij : i = l
      · subst hij; exact ⟨ds, hi⟩
      · rw [List.getElem?_set_ne hij] at h2; exact ⟨bs, h2⟩
    obtain ⟨_, k1⟩ := k1
    obtain ⟨_, k2⟩ := k2
    exact r.inj j l _ _ k1 k2 e
/-- a slot gets a new list -/
theorem Rel.setOw {a : Addr} {vs : List V} {ds : List PyData} (r : Rel G Hf0 H0 α σ ρ Hf H) (n0 : H0 a = none) (nf : Hf a = none) (no : ∀ j es, ρ[j]? = some (.ow es) → α j ≠ a) (h1 : off G H a = some (.lst vs)) (h2 : DqL K Hf vs ds) :
    Rel G Hf0 H0 (fun j => if j = i then a else α j) (σ.set i (some (.ref a))) (ρ.set i (.ow ds)) Hf H := by
  refine ⟨r.good0, r.good, r.ext, by rw [List.length_set, List.length_set]; exact r.len, fun j s h => ?_, fun j l as bs g1 g2 e => ?_⟩
  · by_cases hij : i = j
    · subst hij
      rw [List.getElem?_set_self'] at h
      cases e : ρ[i]? with
      | none => rw [e] at h; cases h
      | some s0 =>
        rw [e] at h
        cases h
        have hl : i < σ.length := by
          rw [r.len]
          exact (List.getElem?_eq_some_iff.mp e).1
        have ei : (if i = i then a else α i) = a := if_pos rfl
        show (σ.set i (some (V.ref a)))[i]? = some (some (.ref (if i = i then a else α i))) ∧ H0 (if i = i then a else α i) = none ∧ Hf (if i = i then a else α i) = none ∧ ∃ vs, off G H (if i = i then a else α i) = some (.lst vs) ∧ DqL K Hf vs ds
        rw [ei]
        exact ⟨List.getElem?_set_self hl, n0, nf, vs, h1, h2⟩
    · rw [List.getElem?_set_ne hij] at h
      have t := (r.sl j s h).other (v := some (V.ref a)) hij
      cases s with
      | un => trivial
      | fz d => exact t
      | ow bs =>
        have e : (if j = i then a else α j) = α j := if_neg (fun z => hij z.symm)
        show (σ.set i (some (V.ref a)))[j]? = some (some (.ref (if j = i then a else α j))) ∧ H0 (if j = i then a else α j) = none ∧ Hf (if j = i then a else α j) = none ∧ ∃ vs, off G H (if j = i then a else α j) = some (.lst vs) ∧ DqL K Hf vs bs
        rw [e]
        exact t
      | br bs => exact t
      | dk => exact t
  · have kk : ∀ m cs, (ρ.set i (Sl.ow ds))[m]? = some (.ow cs) → m ≠ i → ∃ as', ρ[m]? = some (.ow as') := fun m cs h hm => by
      rw [List.getElem?_set_ne (fun z => hm z.symm)] at h
      exact ⟨cs, h⟩
    by_cases hj : j = i
    · by_cases hl : l = i
      · rw [hj, hl]
      · obtain ⟨cs, kl⟩ := kk l bs g2 hl
        rw [if_pos hj, if_neg hl] at e
        exact absurd e.symm (no l cs kl)
    · obtain ⟨cs, kj⟩ := kk j as g1 hj
      by_cases hl : l = i
      · rw [if_neg hj, if_pos hl] at e
        exact absurd e (no j cs kj)
      · obtain ⟨cs', kl⟩ := kk l bs g2 hl
        rw [if_neg hj, if_neg hl] at e
        exact r.inj j l _ _ kj kl e
/-- an owned list is frozen for good -/
theorem Rel.freeze (r : Rel G Hf0 H0 α σ ρ Hf H) {ds : List PyData} (hi : ρ[i]? = some (.ow ds)) : ∃ Hf', Same Hf Hf' ∧ Rel G Hf0 H0 α σ (ρ.set i (.fz (.list ds))) Hf' H := by
  obtain ⟨s1, s2, s3, vs, s4, s5⟩ := r.sl i _ hi
  have sm : Same Hf (upd Hf (α i) (.lst vs)) := same_upd s3
  refine ⟨upd Hf (α i) (.lst vs), sm, r.good0, freeze_new (H0 := H0) r.good s3 s4, ⟨r.ext.fz.trans sm, r.ext.kp, fun b hb => ?_⟩, by rw [List.length_set]; exact r.len, fun j s h => ?_, fun j l as bs h1 h2 e => ?_⟩
  · have nb : b ≠ α i := fun z => by subst z; exact hb s2
    rw [upd_ne nb]
    exact r.ext.nw b hb
  · by_cases hij : i = j
    · subst hij
      rw [List.getElem?_set_self', hi] at h
      cases h
      exact ⟨_, s1, .lst upd_same (s5.mono sm)⟩
    · rw [List.getElem?_set_ne hij] at h
      have t := r.sl j s h
      cases s with
      | un => trivial
      | fz d => obtain ⟨v, t1, t2⟩ := t; exact ⟨v, t1, t2.mono sm⟩
      | ow bs =>
        obtain ⟨t1, t2, t3, us, t4, t5⟩ := t
        have nb : α j ≠ α i := fun z => hij (r.inj i j ds bs hi h z.symm)
        exact ⟨t1, t2, by rw [upd_ne nb]; exact t3, us, t4, t5.mono sm⟩
      | br bs => exact t
      | dk => exact t
  · have n1 : i ≠ j := fun z => by
      subst z
      rw [List.getElem?_set_self', hi] at h1
      cases h1
    have n2 : i ≠ l := fun z => by
      subst z
      rw [List.getElem?_set_self', hi] at h2
      cases h2
    rw [List.getElem?_set_ne n1] at h1
    rw [List.getElem?_set_ne n2] at h2
    exact r.inj j l as bs h1 h2 e
end

/-! ### statements -/
structure VD where
  nx : List Sl → Prop
  rt : Va → Prop
  bk : List Sl → Prop := fun _ => False
  ct : List Sl → Prop := fun _ => False
abbrev VTS := VD → List Sl → Prop
structure EndsOk {K : PySem.W.Frag} (G : Gd K) (Hf0 H0 Hs : Hp) (D : VD) (E : Ends) : Prop where
  nx : ∀ α σ ρ Hf H, Rel G Hf0 H0 α σ ρ Hf H → Same Hs Hf → D.nx ρ → E.nx σ H
  bk : ∀ α σ ρ Hf H, Rel G Hf0 H0 α σ ρ Hf H → Same Hs Hf → D.bk ρ → E.bk σ H
  ct : ∀ α σ ρ Hf H, Rel G Hf0 H0 α σ ρ Hf H → Same Hs Hf → D.ct ρ → E.ct σ H
  rt : ∀ va v Hf H, Good G Hf H → Ext G Hf0 H0 Hf H → RV G H0 Hf H v va → va.ret → D.rt va → E.rt v H
def SndS {K : PySem.W.Frag} (G : Gd K) (ts : TS) (t : VTS) : Prop :=
  ∀ (Hf0 H0 : Hp) (α : Nat → Addr) (σ : L2.St) (ρ : List Sl) (Hf H : Hp) (D : VD) (E : Ends), Rel G Hf0 H0 α σ ρ Hf H → EndsOk G Hf0 H0 Hf D E → t D ρ → ts E σ H
structure VS (X : Cx) {K : PySem.W.Frag} (G : Gd K) (st : Stmt) (ts : TS) (t : VTS) : Prop where
  pe : PS X st ts
  sn : SndS G ts t
structure VSs (X : Cx) {K : PySem.W.Frag} (G : Gd K) (st : List Stmt) (ts : TS) (t : VTS) : Prop where
  pe : PSs X st ts
  sn : SndS G ts t
theorem EndsOk.later {K : PySem.W.Frag} {G : Gd K} {Hf0 H0 Hs Ht : Hp} {D : VD} {E : Ends} (h : EndsOk G Hf0 H0 Hs D E) (s : Same Hs Ht) : EndsOk G Hf0 H0 Ht D E :=
  ⟨fun α σ ρ Hf H r m => h.nx α σ ρ Hf H r (s.trans m), fun α σ ρ Hf H r m => h.bk α σ ρ Hf H r (s.trans m), fun α σ ρ Hf H r m => h.ct α σ ρ Hf H r (s.trans m), h.rt⟩

section
variable {X : Cx} {K : PySem.W.Frag} {G : Gd K} {st : Stmt} {sts : List Stmt} {ts us : TS} {t u : VTS} {e : Expr} {te : TE} {s : VTE} {pos : Pos}
def vNext : VTS := fun D ρ => D.nx ρ
def vSeq (t u : VTS) : VTS := fun D ρ => t { D with nx := u D } ρ
theorem vss_nil : VSs X G [] tNext vNext := ⟨pss_nil, fun Hf0 H0 α σ ρ Hf H D E R ok h => ok.nx α σ ρ Hf H R (Same.refl _) h⟩
theorem snd_seq (h1 : SndS G ts t) (h2 : SndS G us u) : SndS G (tSeq ts us) (vSeq t u) := by
  intro Hf0 H0 α σ ρ Hf H D E R ok h
  refine h1 Hf0 H0 α σ ρ Hf H { D with nx := u D } { E with nx := us E } R ⟨fun α' σ' ρ' Hf' H' r m q => ?_, ok.bk, ok.ct, ok.rt⟩ h
  exact h2 Hf0 H0 α' σ' ρ' Hf' H' D E r (ok.later m) q
theorem vss_cons (h1 : VS X G st ts t) (h2 : VSs X G sts us u) : VSs X G (st :: sts) (tSeq ts us) (vSeq t u) := ⟨pss_cons h1.pe h2.pe, snd_seq h1.sn h2.sn⟩
theorem vss_one (h1 : VS X G st ts t) : VSs X G [st] ts t := ⟨pss_one h1.pe, h1.sn⟩
theorem vs_pass : VS X G (.Pass pos) tNext vNext := ⟨ps_pass, fun Hf0 H0 α σ ρ Hf H D E R ok h => ok.nx α σ ρ Hf H R (Same.refl _) h⟩
def vBreak : VTS := fun D ρ => D.bk ρ
def vCont : VTS := fun D ρ => D.ct ρ
theorem vs_break : VS X G (.Break pos) tBreak vBreak := ⟨ps_break, fun Hf0 H0 α σ ρ Hf H D E R ok h => ok.bk α σ ρ Hf H R (Same.refl _) h⟩
theorem vs_continue : VS X G (.Continue pos) tCont vCont := ⟨ps_continue, fun Hf0 H0 α σ ρ Hf H D E R ok h => ok.ct α σ ρ Hf H R (Same.refl _) h⟩
def vRet (s : VTE) : VTS := fun D ρ => s ρ fun va => va.ret ∧ D.rt va
theorem vs_ret (h : VE X G e te s) : VS X G (.Return (some e) pos) (tRet te) (vRet s) := by
  refine ⟨ps_ret h.pe, fun Hf0 H0 α σ ρ Hf H D E R ok q => ?_⟩
  exact h.sn Hf0 H0 α σ ρ Hf H _ _ R q fun va v Hf' H' q g ex r => ok.rt va v Hf' H' g (Ext.trans R.good0 g R.ext ex) (RV.back R.ext r) q.1 q.2
def vRetN : VTS := fun D _ => D.rt (.fz .none)
theorem vs_retN : VS X G (.Return none pos) tRetN vRetN := ⟨ps_retN, fun Hf0 H0 α σ ρ Hf H D E R ok q => ok.rt (.fz .none) .non Hf H R.good R.ext Dq.non trivial q⟩
/-- return of a name that may own its list -/
def vRetName (i : Nat) : VTS := fun D ρ => match ρ[i]? with
  | some (.fz d) => D.rt (.fz d)
  | some (.ow ds) => D.rt (.nw ds)
  | _ => False
theorem vs_retName (i : Nat) {x : Str} {p : Pos} (h : VE X G (.Name x p) (tVar i) (varV i)) : VS X G (.Return (some (.Name x p)) pos) (tRet (tVar i)) (vRetName i) := by
  refine ⟨ps_ret h.pe, fun Hf0 H0 α σ ρ Hf H D E R ok q => ?_⟩
  unfold vRetName at q
  cases e : ρ[i]? with
  | none => rw [e] at q; exact q.elim
  | some sl =>
    rw [e] at q
    have r := R.sl i sl e
    cases sl with
    | un => exact q.elim
    | fz d =>
      obtain ⟨v, h1, h2⟩ := r
      exact ⟨v, h1, ok.rt (.fz d) v Hf H R.good R.ext h2 trivial q⟩
    | ow ds =>
      obtain ⟨h1, h2, h3, vs, h4, h5⟩ := r
      exact ⟨_, h1, ok.rt (.nw ds) _ Hf H R.good R.ext ⟨_, vs, rfl, h2, h3, h4, h5⟩ trivial q⟩
    | br ds => exact q.elim
    | dk => exact q.elim
def vIf (c : VTT) (t u : VTS) : VTS := fun D ρ => c ρ fun b => if b = true then t D ρ else u D ρ
theorem vs_if {c : Expr} {a b : List Stmt} {tc : TT} {vc : VTT} (hc : VT X G c tc vc) (ha : VSs X G a ts t) (hb : VSs X G b us u) : VS X G (.If c a b pos) (tIfS tc ts us) (vIf vc t u) := by
  refine ⟨ps_if hc.pe ha.pe hb.pe, fun Hf0 H0 α σ ρ Hf H D E R ok q => ?_⟩
  refine hc.sn Hf0 H0 α σ ρ Hf H _ _ R q fun d Hf1 H1 q1 g1 e1 => ?_
  cases d with
  | true =>
    rw [if_pos rfl] at q1 ⊢
    exact ha.sn Hf0 H0 α σ ρ Hf1 H1 D E (R.step g1 e1) (ok.later e1.fz) q1
  | false =>
    rw [if_neg Bool.false_ne_true] at q1 ⊢
    exact hb.sn Hf0 H0 α σ ρ Hf1 H1 D E (R.step g1 e1) (ok.later e1.fz) q1
/-- an owned list is frozen ahead of a statement -/
def frzS (i : Nat) (ρ : List Sl) : List Sl := match ρ[i]? with
  | some (.ow ds) => ρ.set i (.fz (.list ds))
  | _ => ρ
theorem vs_frz (i : Nat) (h : VS X G st ts t) : VS X G st ts (fun D ρ => t D (frzS i ρ)) := by
  refine ⟨h.pe, fun Hf0 H0 α σ ρ Hf H D E R ok q => ?_⟩
  unfold frzS at q
  split at q
  · rename_i ds hi
    obtain ⟨Hf', sm, R'⟩ := R.freeze hi
    exact h.sn Hf0 H0 α σ _ Hf' H D E R' (ok.later sm) q
  · exact h.sn Hf0 H0 α σ ρ Hf H D E R ok q

/-! ### assignments -/
def setV (i : Nat) (ρ : List Sl) : Va → (List Sl → Prop) → Prop
  | .fz d, Q => Q (ρ.set i (.fz d))
  | .nw ds, Q => Q (ρ.set i (.ow ds))
  | _, _ => False
theorem Rel.setV {Hf0 H0 : Hp} {α : Nat → Addr} {σ : L2.St} {ρ : List Sl} {Hf H Hf' H' : Hp} {i : Nat} {va : Va} {v : V} {Q : List Sl → Prop} (R : Rel G Hf0 H0 α σ ρ Hf H) (g : Good G Hf' H') (ex : Ext G Hf H Hf' H') (r : RV G H Hf' H' v va) (q : TR.setV i ρ va Q) :
    ∃ α' ρ', Rel G Hf0 H0 α' (σ.set i (some v)) ρ' Hf' H' ∧ Q ρ' := by
  cases va with
  | fz d => exact ⟨α, _, (R.step g ex).setFz r, q⟩
  | nw ds =>
    obtain ⟨a, vs, rfl, n0, nf, h1, h2⟩ := r
    refine ⟨_, _, (R.step g ex).setOw (a := a) ?_ nf (fun j es hj z => ?_) h1 h2, q⟩
    · have := RV.back (v := .ref a) R.ext (show RV G H Hf' H' (.ref a) (.nw ds) from ⟨a, vs, rfl, n0, nf, h1, h2⟩)
      obtain ⟨b, _, e, n, _⟩ := this
      cases e
      exact n
    · obtain ⟨_, _, _, us, t4, _⟩ := R.sl j _ hj
      rw [z] at t4
      rw [(off_some t4).2] at n0
      cases n0
  | br ds => exact q.elim
  | dk => exact q.elim
def vSet (i : Nat) (s : VTE) : VTS := fun D ρ => s ρ fun va => setV i ρ va D.nx
theorem vs_set (i : Nat) {x : Str} {p : Pos} (h : VE X G e te s) (hN : X.N.Nodup) (hi : X.N[i]? = some x := by rfl) (hx : Loc X.env.scope x := by first | exact Or.inl rfl | exact Or.inr rfl) (hf : X.fn x = true ∨ X.env.scope.names.lookup x = some .local := by first | exact .inl rfl | exact .inr rfl)
    (hs : swapsWithSole [.Name x p] e pos.line X.env = pure false := by rfl) (hw : swappedStores [.Name x p] e X.env = pure none := by rfl) (h1 : (assignEach [.Name x p] X.env).map (·.2) = [assign (.Name x p) X.env] := by rfl) :
    VS X G (.Assign [.Name x p] e pos) (tAsg te (gName i)) (vSet i s) := by
  refine ⟨ps_asg h.pe (pg_name hN hi hx hf) hs hw h1, fun Hf0 H0 α σ ρ Hf H D E R ok q => ?_⟩
  refine h.sn Hf0 H0 α σ ρ Hf H _ _ R q fun va v Hf' H' q g ex r => ?_
  obtain ⟨α', ρ', R', q'⟩ := R.setV g ex r q
  exact ok.nx α' _ ρ' Hf' H' R' ex.fz q'
def vDrop (s : VTE) : VTS := fun D ρ => s ρ fun _ => D.nx ρ
theorem vs_expr (h : VE X G e te s) (hs : swapsWith e none pos.line X.env = pure false := by rfl) : VS X G (.Expr e pos) (tDrop te) (vDrop s) := by
  refine ⟨ps_expr h.pe hs, fun Hf0 H0 α σ ρ Hf H D E R ok q => ?_⟩
  exact h.sn Hf0 H0 α σ ρ Hf H _ _ R q fun va v Hf' H' q g ex r => ok.nx α σ ρ Hf' H' (R.step g ex) ex.fz q
end
end TR

namespace TR
open PySem L2 PySem.Spec PyProof.Rows

/-! ### targets -/
def Agr (ws : List Nat) (σ σ' : L2.St) : Prop := (∀ i, i ∉ ws → σ'[i]? = σ[i]?) ∧ σ'.length = σ.length
abbrev VTG := PyData → List Sl → (List Sl → Prop) → Prop
def SndG {K : PySem.W.Frag} (G : Gd K) (g : TG) (ws : List Nat) (t : VTG) : Prop :=
  ∀ (Hf0 H0 : Hp) (α : Nat → Addr) (σ : L2.St) (ρ : List Sl) (Hf H : Hp) (v : V) (d : PyData) (Qd : List Sl → Prop) (Q : L2.St → Hp → Prop), Rel G Hf0 H0 α σ ρ Hf H → Dq K Hf v d → t d ρ Qd →
    (∀ σ' ρ', Rel G Hf0 H0 α σ' ρ' Hf H → Agr ws σ σ' → Qd ρ' → Q σ' H) → g v σ H Q
def SndGs {K : PySem.W.Frag} (G : Gd K) (g : TGs) (ws : List Nat) (t : List PyData → List Sl → (List Sl → Prop) → Prop) : Prop :=
  ∀ (Hf0 H0 : Hp) (α : Nat → Addr) (σ : L2.St) (ρ : List Sl) (Hf H : Hp) (vs : List V) (ds : List PyData) (Qd : List Sl → Prop) (Q : L2.St → Hp → Prop), Rel G Hf0 H0 α σ ρ Hf H → DqL K Hf vs ds → t ds ρ Qd →
    (∀ σ' ρ', Rel G Hf0 H0 α σ' ρ' Hf H → Agr ws σ σ' → Qd ρ' → Q σ' H) → g vs σ H Q
structure VG (X : Cx) {K : PySem.W.Frag} (G : Gd K) (tg : Expr) (g : TG) (ws : List Nat) (t : VTG) : Prop where
  pe : PG X tg g
  sn : SndG G g ws t
structure VGs (X : Cx) {K : PySem.W.Frag} (G : Gd K) (tg : List Expr) (g : TGs) (ws : List Nat) (t : List PyData → List Sl → (List Sl → Prop) → Prop) : Prop where
  pe : PGs X tg g
  sn : SndGs G g ws t
def nameG (i : Nat) : VTG := fun d ρ Q => Q (ρ.set i (.fz d))
def nilG : List PyData → List Sl → (List Sl → Prop) → Prop := fun ds ρ Q => match ds with
  | [] => Q ρ
  | _ => False
def consG (t : VTG) (u : List PyData → List Sl → (List Sl → Prop) → Prop) : List PyData → List Sl → (List Sl → Prop) → Prop := fun ds ρ Q => match ds with
  | d :: r => t d ρ fun ρ' => u r ρ' Q
  | [] => False
def tupG (n : Nat) (u : List PyData → List Sl → (List Sl → Prop) → Prop) : VTG := fun d ρ Q => match d with
  | .tuple ds => ds.length = n ∧ u ds ρ Q
  | _ => False
section
variable {X : Cx} {K : PySem.W.Frag} {G : Gd K} {pos : Pos}
theorem vg_name (i : Nat) {x : Str} (hN : X.N.Nodup) (hi : X.N[i]? = some x := by rfl) (hx : Loc X.env.scope x := by first | exact Or.inl rfl | exact Or.inr rfl) (hf : X.fn x = true ∨ X.env.scope.names.lookup x = some .local := by first | exact .inl rfl | exact .inr rfl) :
    VG X G (.Name x pos) (gName i) [i] (nameG i) := by
  refine ⟨pg_name hN hi hx hf, fun Hf0 H0 α σ ρ Hf H v d Qd Q R hd q k => ?_⟩
  exact k _ _ (R.setFz hd) ⟨fun j hj => List.getElem?_set_ne (fun z => hj (by simp [z])), List.length_set⟩ q
theorem vgs_nil : VGs X G [] gNil [] nilG := by
  refine ⟨pgs_nil, fun Hf0 H0 α σ ρ Hf H vs ds Qd Q R hd q k => ?_⟩
  cases hd with
  | nil => exact ⟨rfl, k σ ρ R ⟨fun _ _ => rfl, rfl⟩ q⟩
  | cons a b => exact q.elim
theorem vgs_cons {e : Expr} {es : List Expr} {t : TG} {u : TGs} {ws us : List Nat} {s : VTG} {r : List PyData → List Sl → (List Sl → Prop) → Prop} (h1 : VG X G e t ws s) (h2 : VGs X G es u us r)
    (hs : (assignEach (e :: es) X.env).map (·.2) = assign e X.env :: (assignEach es X.env).map (·.2) := by rfl) : VGs X G (e :: es) (gCons t u) (ws ++ us) (consG s r) := by
  refine ⟨pgs_cons h1.pe h2.pe hs, fun Hf0 H0 α σ ρ Hf H vs ds Qd Q R hd q k => ?_⟩
  cases hd with
  | nil => exact q.elim
  | cons a b =>
    refine ⟨_, _, rfl, ?_⟩
    refine h1.sn Hf0 H0 α σ ρ Hf H _ _ _ _ R a q fun σ1 ρ1 R1 m1 q1 => ?_
    refine h2.sn Hf0 H0 α σ1 ρ1 Hf H _ _ _ _ R1 b q1 fun σ2 ρ2 R2 m2 q2 => k σ2 ρ2 R2 ⟨fun i hi => ?_, m2.2.trans m1.2⟩ q2
    rw [m2.1 i (fun z => hi (List.mem_append_right _ z)), m1.1 i (fun z => hi (List.mem_append_left _ z))]
theorem vg_tup {es : List Expr} {k : Nat} {g : TGs} (n : Nat) {ws : List Nat} {u : List PyData → List Sl → (List Sl → Prop) → Prop} (h : VGs X G es g ws u) (hc : X.calm = true := by rfl)
    (hn : (assignEach es X.env).length = n := by rfl) (hst : (assignEach es X.env).findIdx? (·.1) = none := by rfl) (hK : X.K = K := by rfl) : VG X G (.Tuple es k pos) (gTup K n g) ws (tupG n u) := by
  refine ⟨hK ▸ pg_tup hc h.pe hn hst, fun Hf0 H0 α σ ρ Hf H v d Qd Q R hd q kk => ?_⟩
  unfold tupG at q
  split at q
  · rename_i ds
    cases hd with
    | tup h1 h2 =>
      exact ⟨_, _, rfl, SqT.mono R.good.sub h1, by rw [h2.length]; exact q.1, h.sn Hf0 H0 α σ ρ Hf H _ _ _ _ R h2 q.2 kk⟩
  · exact q.elim
end

/-! ### what is walked -/
/-- while P holds of the heaps the walk J gives these items -/
structure Src {K : PySem.W.Frag} (G : Gd K) (P : Hp → Hp → Prop) (J : It) (items : List PyData) : Prop where
  stop : ∀ Hf H, Good G Hf H → P Hf H → J.stop items.length H
  go : ∀ i Hf H, Good G Hf H → P Hf H → i < items.length → J.go i H
  yld : ∀ i d Hf H x H', Good G Hf H → P Hf H → items[i]? = some d → J.yld i H x H' → ∃ Hf', Good G Hf' H' ∧ Ext G Hf H Hf' H' ∧ Dq K Hf' x d
abbrev VTI := List Sl → (List PyData → Prop) → Prop
/-- in a for: what is walked stands still while the body runs -/
def SndI {K : PySem.W.Frag} (G : Gd K) (wi : TI) (t : VTI) : Prop :=
  ∀ (Hf0 H0 : Hp) (α : Nat → Addr) (σ : L2.St) (ρ : List Sl) (Hf H : Hp) (Qd : List PyData → Prop) (R : It → Hp → Prop), Rel G Hf0 H0 α σ ρ Hf H → t ρ Qd →
    (∀ items J Hf' H', Qd items → Good G Hf' H' → Ext G Hf H Hf' H' → Src G (fun Hg _ => Same Hf' Hg) J items → R J H') → wi σ H R
/-- in a comprehension: while readings run -/
def SndIC {K : PySem.W.Frag} (G : Gd K) (wi : TI) (t : VTI) : Prop :=
  ∀ (Hf0 H0 : Hp) (α : Nat → Addr) (σ : L2.St) (ρ : List Sl) (Hf H : Hp) (Qd : List PyData → Prop) (R : It → Hp → Prop), Rel G Hf0 H0 α σ ρ Hf H → t ρ Qd →
    (∀ items J Hf' H', Qd items → Good G Hf' H' → Ext G Hf H Hf' H' → Src G (fun Hg Hh => Same Hf' Hg ∧ Same (off G H') (off G Hh)) J items → R J H') → wi σ H R
structure VI (X : Cx) {K : PySem.W.Frag} (G : Gd K) (tg iter : Expr) (wi : TI) (t : VTI) : Prop where
  pe : PI X tg iter wi
  sn : SndI G wi t
structure VIC (X : Cx) {K : PySem.W.Frag} (G : Gd K) (tg iter : Expr) (wi : TI) (t : VTI) : Prop where
  pe : PI X tg iter wi
  sn : SndIC G wi t
theorem Src.imp {K : PySem.W.Frag} {G : Gd K} {P P' : Hp → Hp → Prop} {J : It} {items : List PyData} (s : Src G P J items) (h : ∀ Hf H, P' Hf H → P Hf H) : Src G P' J items :=
  ⟨fun Hf H g p => s.stop Hf H g (h _ _ p), fun i Hf H g p => s.go i Hf H g (h _ _ p), fun i d Hf H x H' g p => s.yld i d Hf H x H' g (h _ _ p)⟩
theorem vic_of {X : Cx} {K : PySem.W.Frag} {G : Gd K} {tg iter : Expr} {wi : TI} {t : VTI} (h : VI X G tg iter wi t) : VIC X G tg iter wi t :=
  ⟨h.pe, fun Hf0 H0 α σ ρ Hf H Qd R Rl q k => h.sn Hf0 H0 α σ ρ Hf H Qd R Rl q fun items J Hf' H' q' g e s => k items J Hf' H' q' g e (s.imp fun _ _ p => p.1)⟩

def iSeq (K : PySem.W.Frag) (tl : TE) : TI := fun σ H R => tl σ H fun x H1 => ∃ a, x = .ref a ∧ (((∃ xs, SqL K H1 a xs) ∧ R (Itl K a) H1) ∨ ((∃ xs, SqT K H1 a xs) ∧ R (Itt K a) H1))
theorem pi_seq {X : Cx} {tg l : Expr} {tl : TE} (hl : PE X l tl) : PI X tg l (iSeq X.K tl) := by
  refine ⟨fun pins s σ H R I h => thn (hl.run pins s σ H _ I h) fun v s1 hv => ?_⟩
  obtain ⟨x, H1, I1, r1, a, rfl, hq⟩ := hv
  cases r1
  have new : ∀ (o : Obj), ∀ b ∈ [s1.heap.objs.size], FpOk X pins H1 b := fun o b hb => by
    rw [List.mem_singleton.mp hb]
    exact I1.fpOk (Nat.le_refl _) (I1.hok.fresh (Nat.le_refl _))
  rcases hq with ⟨⟨xs, hq⟩, q⟩ | ⟨⟨xs, hq⟩, q⟩
  · obtain ⟨its, rv, p, _⟩ := I1.list hq
    exact wpAny_pyIter_list p.isList ⟨_, _, _, _, H1, rfl, I1.kept (t' := s1.toks) fun b o e => Heap.get?_push_of_some _ e, turn_list a _, ⟨_, Heap.get?_push_size _ rfl, rfl, rfl⟩, new default, q⟩
  · obtain ⟨its, rv, p, _⟩ := I1.tuple hq
    exact wpAny_pyIter_tuple (show s1.heap.IsTuple a its.toArray from p) ⟨_, _, _, _, H1, rfl, I1.kept (t' := s1.toks) fun b o e => Heap.get?_push_of_some _ e, turn_tuple a _, ⟨_, Heap.get?_push_size _ rfl, rfl, rfl⟩, new default, q⟩

section
variable {K : PySem.W.Frag} {G : Gd K} {Hf H : Hp} {a : Addr} {vs : List V} {ds : List PyData}
theorem src_list (hd : DqL K Hf vs ds) : Src G (fun Hg Hh => Same Hf Hg ∧ Hh a = some (.lst vs)) (Itl K a) ds := by
  refine ⟨fun Hg Hh _ p => ⟨vs, SqL.of p.2, Nat.le_of_eq hd.length⟩, fun i Hg Hh _ p hi => ?_, fun i d Hg Hh x H' g p hi y => ?_⟩
  · obtain ⟨v, h1, _⟩ := hd.get (show ds[i]? = some ds[i] by simp [hi])
    exact ⟨vs, v, SqL.of p.2, h1⟩
  · obtain ⟨rfl, y⟩ := y
    obtain ⟨v, h1, h2⟩ := hd.get hi
    rw [y vs (SqL.of p.2)] at h1
    cases h1
    exact ⟨Hg, g, Ext.refl, h2.mono p.1⟩
theorem src_tup (hd : DqL K Hf vs ds) : Src G (fun Hg Hh => Same Hf Hg ∧ SqT K Hh a vs) (Itt K a) ds := by
  refine ⟨fun Hg Hh _ p => ⟨vs, p.2, Nat.le_of_eq hd.length⟩, fun i Hg Hh _ p hi => ?_, fun i d Hg Hh x H' g p hi y => ?_⟩
  · obtain ⟨v, h1, _⟩ := hd.get (show ds[i]? = some ds[i] by simp [hi])
    exact ⟨vs, v, p.2, h1⟩
  · obtain ⟨rfl, y⟩ := y
    obtain ⟨v, h1, h2⟩ := hd.get hi
    rw [y vs p.2] at h1
    cases h1
    exact ⟨Hg, g, Ext.refl, h2.mono p.1⟩
end
def dseq : PyData → (List PyData → Prop) → Prop
  | .list ds, Q => Q ds
  | .tuple ds, Q => Q ds
  | _, _ => False
theorem dseq_or {d : PyData} {Q : List PyData → Prop} (h : dseq d Q) : (∃ ds, d = .list ds ∧ Q ds) ∨ ∃ ds, d = .tuple ds ∧ Q ds := by
  cases d with
  | list ds => exact .inl ⟨ds, rfl, h⟩
  | tuple ds => exact .inr ⟨ds, rfl, h⟩
  | _ => exact h.elim
def seqI (s : VTE) : VTI := fun ρ Q => s ρ fun va => va.frz fun d => dseq d Q
def seqIC (s : VTE) : VTI := fun ρ Q => s ρ fun va => dseq va.rd Q
section
variable {X : Cx} {K : PySem.W.Frag} {G : Gd K} {tg e : Expr} {te : TE} {s : VTE}
theorem vi_seq (h : VE X G e te s) (hK : X.K = K := by rfl) : VI X G tg e (iSeq K te) (seqI s) := by
  refine ⟨hK ▸ pi_seq h.pe, fun Hf0 H0 α σ ρ Hf H Qd R Rl q k => ?_⟩
  refine (vf_of h).sn Hf0 H0 α σ ρ Hf H _ _ Rl q fun d v Hf' H' q g ex r => ?_
  unfold dseq at q
  split at q
  · rename_i ds
    cases r with
    | lst h1 h2 => exact ⟨_, rfl, .inl ⟨⟨_, SqL.of (g.sub _ _ h1)⟩, k ds _ Hf' H' q g ex ⟨fun Hg Hh gg p => (src_list h2).stop Hg Hh gg ⟨p, gg.sub _ _ (p _ _ h1)⟩, fun i Hg Hh gg p => (src_list h2).go i Hg Hh gg ⟨p, gg.sub _ _ (p _ _ h1)⟩, fun i d Hg Hh x H' gg p => (src_list h2).yld i d Hg Hh x H' gg ⟨p, gg.sub _ _ (p _ _ h1)⟩⟩⟩⟩
  · rename_i ds
    cases r with
    | tup h1 h2 => exact ⟨_, rfl, .inr ⟨⟨_, SqT.mono g.sub h1⟩, k ds _ Hf' H' q g ex ⟨fun Hg Hh gg p => (src_tup h2).stop Hg Hh gg ⟨p, SqT.mono (p.trans gg.sub) h1⟩, fun i Hg Hh gg p => (src_tup h2).go i Hg Hh gg ⟨p, SqT.mono (p.trans gg.sub) h1⟩, fun i d Hg Hh x H' gg p => (src_tup h2).yld i d Hg Hh x H' gg ⟨p, SqT.mono (p.trans gg.sub) h1⟩⟩⟩⟩
  · exact q.elim
theorem vic_seq (h : VE X G e te s) (hK : X.K = K := by rfl) : VIC X G tg e (iSeq K te) (seqIC s) := by
  refine ⟨hK ▸ pi_seq h.pe, fun Hf0 H0 α σ ρ Hf H Qd R Rl q k => ?_⟩
  refine h.sn Hf0 H0 α σ ρ Hf H _ _ Rl q fun va v Hf' H' q g ex r => ?_
  rcases dseq_or q with ⟨ds, hd, q⟩ | ⟨ds, hd, q⟩
  · cases va with
    | fz d =>
      cases (show d = .list ds from hd)
      cases r with
      | lst h1 h2 => exact ⟨_, rfl, .inl ⟨⟨_, SqL.of (g.sub _ _ h1)⟩, k ds _ Hf' H' q g ex ((src_list h2).imp fun Hg Hh p => ⟨p.1, off_same _ _ (p.2 _ _ (g.off _ _ h1))⟩)⟩⟩
    | nw es =>
      cases hd
      obtain ⟨a, ws, rfl, _, _, h1, h2⟩ := r
      exact ⟨_, rfl, .inl ⟨⟨_, SqL.of (off_some h1).2⟩, k ds _ Hf' H' q g ex ((src_list h2).imp fun Hg Hh p => ⟨p.1, off_same _ _ (p.2 _ _ h1)⟩)⟩⟩
    | br es =>
      cases hd
      obtain ⟨a, ws, rfl, h1, h2⟩ := r
      exact ⟨_, rfl, .inl ⟨⟨_, SqL.of (off_some h1).2⟩, k ds _ Hf' H' q g ex ((src_list h2).imp fun Hg Hh p => ⟨p.1, off_same _ _ (p.2 _ _ h1)⟩)⟩⟩
    | dk => cases hd
  · obtain ⟨a, ws, rfl, h1, h2⟩ := r.tup g hd
    exact ⟨_, rfl, .inr ⟨⟨_, SqT.mono g.sub h1⟩, k ds _ Hf' H' q g ex ((src_tup h2).imp fun Hg Hh p => ⟨p.1, SqT.mono ((g.off.trans p.2).trans off_same) h1⟩)⟩⟩
end
/-! ranges -/
def rgD (lo : Int) (n : Nat) : List PyData := (List.range n).map fun (i : Nat) => .int (lo + i)
theorem src_range {K : PySem.W.Frag} {G : Gd K} {P : Hp → Hp → Prop} (lo : Int) (n : Nat) : Src G P (Itr lo n) (rgD lo n) := by
  have hl : (rgD lo n).length = n := by unfold rgD; rw [List.length_map, List.length_range]
  refine ⟨fun Hf H _ _ => ?_, fun i Hf H _ _ hi => ?_, fun i d Hf H x H' g _ hi y => ?_⟩
  · rw [hl]; exact Nat.le_refl _
  · rw [hl] at hi; exact hi
  · obtain ⟨rfl, rfl⟩ := y
    have hn : i < n := by
      have := (List.getElem?_eq_some_iff.mp hi).1
      rw [hl] at this
      exact this
    unfold rgD at hi
    rw [List.getElem?_map, List.getElem?_range hn] at hi
    cases hi
    exact ⟨Hf, g, Ext.refl, .int _⟩
def rg1I (t : VTA) : VTI := fun ρ Q => t ρ fun vas => match vas with
  | [x] => match x.rd with
    | .int j => -(2 ^ 62) ≤ j ∧ j < 2 ^ 62 ∧ Q (rgD 0 j.toNat)
    | _ => False
  | _ => False
def rg2I (t : VTA) : VTI := fun ρ Q => t ρ fun vas => match vas with
  | [x, y] => match x.rd, y.rd with
    | .int i, .int j => (-(2 ^ 62) ≤ i ∧ i < 2 ^ 62 ∧ -(2 ^ 62) ≤ j ∧ j < 2 ^ 62) ∧ Q (rgD i (j - i).toNat)
    | _, _ => False
  | _ => False
section
variable {X : Cx} {K : PySem.W.Frag} {G : Gd K} {tg a b : Expr} {ta : TA} {t : VTA} {p pos : Pos}
theorem vi_range1 (hm : X.mg "range" = none) (ha : VA X G [a] ta t) (hg : Gl X "range" := by rfl) (hs : starEach [a] X.env = [(false, eval a X.env)] := by rfl) : VI X G tg (.Call (.Name "range" p) [a] [] pos) (iRng1 ta) (rg1I t) := by
  refine ⟨pi_range1 hg hm ha.pe hs, fun Hf0 H0 α σ ρ Hf H Qd R Rl q k => ?_⟩
  refine ha.sn Hf0 H0 α σ ρ Hf H _ _ Rl q fun vas vs Hf' H' q g ex r => ?_
  split at q
  · cases r with
    | cons r1 r2 =>
      cases r2
      split at q
      · rename_i j hj
        exact ⟨j, by rw [r1.int hj], q.1, q.2.1, k _ _ Hf' H' q.2.2 g ex (src_range _ _)⟩
      · exact q.elim
  · exact q.elim
theorem vi_range2 (hm : X.mg "range" = none) (ha : VA X G [a, b] ta t) (hg : Gl X "range" := by rfl) (hs : starEach [a, b] X.env = [(false, eval a X.env), (false, eval b X.env)] := by rfl) (hs2 : starEach [b] X.env = [(false, eval b X.env)] := by rfl) :
    VI X G tg (.Call (.Name "range" p) [a, b] [] pos) (iRng2 ta) (rg2I t) := by
  refine ⟨pi_range2 hg hm ha.pe hs hs2, fun Hf0 H0 α σ ρ Hf H Qd R Rl q k => ?_⟩
  refine ha.sn Hf0 H0 α σ ρ Hf H _ _ Rl q fun vas vs Hf' H' q g ex r => ?_
  split at q
  · cases r with
    | cons r1 r2 =>
      cases r2 with
      | cons r2 r3 =>
        cases r3
        split at q
        · rename_i i j hi hj
          exact ⟨i, j, by rw [r1.int hi, r2.int hj], q.1, k _ _ Hf' H' q.2 g ex (src_range _ _)⟩
        · exact q.elim
  · exact q.elim
end

/-! ### for -/
def forV (asg : VTG) (body : VTS) : List PyData → VTS
  | [] => fun D ρ => D.nx ρ
  | d :: ds => fun D ρ => asg d ρ fun ρ1 => body { nx := forV asg body ds D, rt := D.rt, ct := forV asg body ds D, bk := D.nx } ρ1
def vFor (src : VTI) (asg : VTG) (body : VTS) : VTS := fun D ρ => src ρ fun items => forV asg body items D ρ
theorem snd_for {K : PySem.W.Frag} {G : Gd K} {wi : TI} {src : VTI} {g : TG} {ws : List Nat} {asg : VTG} {tb : TS} {body : VTS} (hi : SndI G wi src) (hg : SndG G g ws asg) (hb : SndS G tb body) : SndS G (tFor wi g tb) (vFor src asg body) := by
  intro Hf0 H0 α σ ρ Hf H D E R ok q
  refine hi Hf0 H0 α σ ρ Hf H _ _ R q fun items J Hf1 H1 q1 g1 e1 S => ?_
  refine ⟨fun i m σ' H' => ∃ α' ρ' Hf', Rel G Hf0 H0 α' σ' ρ' Hf' H' ∧ Same Hf1 Hf' ∧ m = items.length - i ∧ i ≤ items.length ∧ forV asg body (items.drop i) D ρ', ⟨items.length, α, ρ, Hf1, R.step g1 e1, Same.refl _, by simp, Nat.zero_le _, by rw [List.drop_zero]; exact q1⟩, ?_⟩
  rintro i m σ' H' ⟨α', ρ', Hf', R', sm, rfl, hi', q'⟩
  by_cases hlt : i < items.length
  · have hd : items[i]? = some items[i] := by simp [hlt]
    rw [List.drop_eq_getElem_cons hlt] at q'
    refine .inr ⟨S.go i Hf' H' R'.good sm hlt, fun σ2 H2 => ∃ α2 ρ2 Hf2, Rel G Hf0 H0 α2 σ2 ρ2 Hf2 H2 ∧ Same Hf1 Hf2 ∧ forV asg body (items.drop (i + 1)) D ρ2, fun σ2 H2 hN => ?_, fun x H2 hy => ?_⟩
    · obtain ⟨α2, ρ2, Hf2, R2, sm2, q2⟩ := hN
      exact ⟨items.length - (i + 1), by omega, α2, ρ2, Hf2, R2, sm2, rfl, hlt, q2⟩
    · obtain ⟨Hf2, g2, e2, d2⟩ := S.yld i _ Hf' H' x H2 R'.good sm hd hy
      refine hg Hf0 H0 α' σ' ρ' Hf2 H2 x _ _ _ (R'.step g2 e2) d2 q' fun σ3 ρ3 R3 _ q3 => ?_
      refine hb Hf0 H0 α' σ3 ρ3 Hf2 H2 { nx := forV asg body (items.drop (i + 1)) D, rt := D.rt, ct := forV asg body (items.drop (i + 1)) D, bk := D.nx } _ R3 ⟨fun α4 σ4 ρ4 Hf4 H4 R4 s4 q4 => ?_, fun α4 σ4 ρ4 Hf4 H4 R4 s4 q4 => ?_, fun α4 σ4 ρ4 Hf4 H4 R4 s4 q4 => ?_, ok.rt⟩ q3
      · exact ⟨α4, ρ4, Hf4, R4, (sm.trans e2.fz).trans s4, q4⟩
      · exact ok.nx α4 σ4 ρ4 Hf4 H4 R4 (e1.fz.trans ((sm.trans e2.fz).trans s4)) q4
      · exact ⟨α4, ρ4, Hf4, R4, (sm.trans e2.fz).trans s4, q4⟩
  · have e : i = items.length := by omega
    subst e
    rw [List.drop_length] at q'
    exact .inl ⟨S.stop Hf' H' R'.good sm, ok.nx α' σ' ρ' Hf' H' R' (e1.fz.trans sm) q'⟩
theorem vs_for {X : Cx} {K : PySem.W.Frag} {G : Gd K} {tg iter : Expr} {body : List Stmt} {wi : TI} {src : VTI} {g : TG} {ws : List Nat} {asg : VTG} {tb : TS} {vb : VTS} {pos : Pos} (hi : VI X G tg iter wi src) (hg : VG X G tg g ws asg) (hb : VSs X G body tb vb)
    (hc : X.calm = true := by rfl) (hp : PassesOwn (model X.prog X.w) X.A X.env X.xe := by exact PassesOwn.never) (hs : ∀ x, foldedSetIterable iter X.env x = pure x := by intro _; rfl) : VS X G (.For tg iter body [] pos) (tFor wi g tb) (vFor src asg vb) :=
  ⟨ps_for hp hc hi.pe hg.pe hb.pe hs, snd_for hi.sn hg.sn hb.sn⟩

/-! ### while -/
def whileN (c : VTT) (body : VTS) : Nat → VTS
  | 0 => fun _ _ => False
  | n + 1 => fun D ρ => c ρ fun b => if b = true then body { nx := whileN c body n D, rt := D.rt, ct := whileN c body n D, bk := D.nx } ρ else D.nx ρ
def vWhile (c : VTT) (body : VTS) : VTS := fun D ρ => ∃ n, whileN c body n D ρ
theorem snd_while {K : PySem.W.Frag} {G : Gd K} {tc : TT} {c : VTT} {tb : TS} {body : VTS} (hc : SndT G tc c) (hb : SndS G tb body) : SndS G (tWhile tc tb) (vWhile c body) := by
  intro Hf0 H0 α σ ρ Hf H D E R ok q
  obtain ⟨n, q⟩ := q
  refine ⟨fun m σ' H' => ∃ α' ρ' Hf', Rel G Hf0 H0 α' σ' ρ' Hf' H' ∧ Same Hf Hf' ∧ whileN c body m D ρ', ⟨n, α, ρ, Hf, R, Same.refl _, q⟩, ?_⟩
  rintro m σ' H' ⟨α', ρ', Hf', R', sm, q'⟩
  cases m with
  | zero => exact q'.elim
  | succ m =>
    refine hc Hf0 H0 α' σ' ρ' Hf' H' _ _ R' q' fun b Hf1 H1 q1 g1 e1 => ?_
    cases b with
    | false =>
      rw [if_neg Bool.false_ne_true] at q1 ⊢
      exact ok.nx α' σ' ρ' Hf1 H1 (R'.step g1 e1) (sm.trans e1.fz) q1
    | true =>
      rw [if_pos rfl] at q1 ⊢
      refine ⟨fun σ2 H2 => ∃ α2 ρ2 Hf2, Rel G Hf0 H0 α2 σ2 ρ2 Hf2 H2 ∧ Same Hf Hf2 ∧ whileN c body m D ρ2, fun σ2 H2 hN => ⟨m, Nat.lt_succ_self m, hN⟩, ?_⟩
      refine hb Hf0 H0 α' σ' ρ' Hf1 H1 { nx := whileN c body m D, rt := D.rt, ct := whileN c body m D, bk := D.nx } _ (R'.step g1 e1) ⟨fun α4 σ4 ρ4 Hf4 H4 R4 s4 q4 => ?_, fun α4 σ4 ρ4 Hf4 H4 R4 s4 q4 => ?_, fun α4 σ4 ρ4 Hf4 H4 R4 s4 q4 => ?_, ok.rt⟩ q1
      · exact ⟨α4, ρ4, Hf4, R4, (sm.trans e1.fz).trans s4, q4⟩
      · exact ok.nx α4 σ4 ρ4 Hf4 H4 R4 ((sm.trans e1.fz).trans s4) q4
      · exact ⟨α4, ρ4, Hf4, R4, (sm.trans e1.fz).trans s4, q4⟩
theorem vs_while {X : Cx} {K : PySem.W.Frag} {G : Gd K} {e : Expr} {body : List Stmt} {tc : TT} {c : VTT} {tb : TS} {vb : VTS} {pos : Pos} (hc : VT X G e tc c) (hb : VSs X G body tb vb) (hp : PassesOwn (model X.prog X.w) X.A X.env X.xe := by exact PassesOwn.never) :
    VS X G (.While e body [] pos) (tWhile tc tb) (vWhile c vb) := ⟨ps_while hp hc.pe hb.pe, snd_while hc.sn hb.sn⟩
end TR

namespace TR
open PySem L2 PySem.Spec PyProof.Rows

/-! ### comprehensions -/
section
variable {K : PySem.W.Frag} {G : Gd K} {Hf H Hf' H' : Hp} {p : Addr} {o : HO}
theorem Good.wr (g : Good G Hf H) (h1 : Hf p = none) (h2 : G.F p = false) : Good G Hf (upd H p o) := by
  refine ⟨g.ok, fun b u e => ?_, g.nf, g.ok.loc H _ (fun b hb => ?_) g.res⟩
  · have nb : b ≠ p := fun z => by subst z; rw [h1] at e; cases e
    rw [upd_ne nb]
    exact g.sub b u e
  · have nb : b ≠ p := fun z => by subst z; rw [h2] at hb; cases hb
    rw [upd_ne nb]
theorem Ext.wr (e : Ext G Hf H Hf' H') (h : H p = none) : Ext G Hf H Hf' (upd H' p o) := by
  refine ⟨e.fz, fun b u q => ?_, e.nw⟩
  have nb : b ≠ p := fun z => by subst z; rw [(off_some q).2] at h; cases h
  have t := e.kp b u q
  unfold off at t ⊢
  rw [upd_ne nb]
  exact t
end
theorem wipe_in {σ : L2.St} : ∀ {vs : List Nat} {i : Nat}, i ∈ vs → (L2.wipe σ vs)[i]? = σ[i]?.map fun _ => none
  | v :: vs, i, h => by
    show ((L2.wipe σ vs).set v none)[i]? = _
    have hl := wipe_length σ vs
    by_cases e : v = i
    · subst e
      rw [List.getElem?_set_self']
      by_cases q : v < σ.length
      · rw [List.getElem?_eq_getElem (by rw [hl]; exact q), List.getElem?_eq_getElem q]
        rfl
      · rw [List.getElem?_eq_none (by rw [hl]; omega), List.getElem?_eq_none (by omega)]
        rfl
    · rw [List.getElem?_set_ne e]
      exact wipe_in (by
        rcases List.mem_cons.mp h with z | z
        · exact absurd z.symm e
        · exact z)
theorem wipe_out {σ : L2.St} : ∀ {vs : List Nat} {i : Nat}, i ∉ vs → (L2.wipe σ vs)[i]? = σ[i]?
  | [], _, _ => rfl
  | v :: vs, i, h => by
    show ((L2.wipe σ vs).set v none)[i]? = _
    rw [List.getElem?_set_ne (fun z => h (by simp [z]))]
    exact wipe_out (fun z => h (List.mem_cons_of_mem _ z))
theorem wipe_agr {σ σ2 : L2.St} {vs ws : List Nat} (h : Agr ws (L2.wipe σ vs) σ2) (hw : ∀ i ∈ ws, i ∈ vs) : L2.wipe σ2 vs = L2.wipe σ vs := by
  have hl : σ2.length = σ.length := h.2.trans (wipe_length σ vs)
  refine List.ext_getElem? fun i => ?_
  by_cases hi : i ∈ vs
  · rw [wipe_in hi, wipe_in hi]
    by_cases q : i < σ.length
    · rw [List.getElem?_eq_getElem (by rw [hl]; exact q), List.getElem?_eq_getElem q]
      rfl
    · rw [List.getElem?_eq_none (by omega), List.getElem?_eq_none (by omega)]
  · rw [wipe_out hi, h.1 i (fun z => hi (hw i z))]
abbrev VTF := List Sl → (PyData → Prop) → Prop
def compV (asg : VTG) (tt : VTT) (te : VTF) (ρ : List Sl) : List PyData → List PyData → (List PyData → Prop) → Prop
  | [], acc, Q => Q acc
  | d :: ds, acc, Q => asg d ρ fun ρ2 => tt ρ2 fun b => if b = true then te ρ2 fun y => acc.length < sizeLine ∧ compV asg tt te ρ ds (acc ++ [y]) Q else compV asg tt te ρ ds acc Q
def lcV (src : VTI) (asg : VTG) (tt : VTT) (te : VTF) (vs : List Nat) : VTE := fun ρ Q => src ρ fun items => compV asg tt te (wipeV ρ vs) items [] fun ds => Q (.nw ds)
theorem snd_lc {K : PySem.W.Frag} {G : Gd K} {wi : TI} {src : VTI} {g : TG} {ws vs : List Nat} {asg : VTG} {tt : TT} {ct : VTT} {te : TE} {ce : VTF} (hi : SndIC G wi src) (hg : SndG G g ws asg) (ht : SndT G tt ct) (he : SndF G te ce) (hw : ∀ i ∈ ws, i ∈ vs) :
    SndE G (tLc wi g tt te vs) (lcV src asg ct ce vs) := by
  intro Hf0 H0 α σ ρ Hf H Qd Q R q k
  refine hi Hf0 H0 α σ ρ Hf H _ _ R q fun items J Hf1 H1 q1 g1 e1 S => fun D hD => ?_
  have hF := g1.nF hD
  refine ⟨fun i m Hc => ∃ Hf' acc dacc, Good G Hf' Hc ∧ Ext G Hf1 H1 Hf' Hc ∧ Hf' D = none ∧ Hc D = some (.lst acc) ∧ DqL K Hf' acc dacc ∧ m = items.length - i ∧ i ≤ items.length ∧ compV asg ct ce (wipeV ρ vs) (items.drop i) dacc (fun ds => Qd (.nw ds)),
    ⟨items.length, Hf1, [], [], g1.open_ hD, Ext.open_ g1 hD, g1.fresh hD, upd_same, .nil, by simp, Nat.zero_le _, by rw [List.drop_zero]; exact q1⟩, ?_⟩
  rintro i m Hc ⟨Hf', acc, dacc, gc, ec, nD, aD, dA, rfl, hi', qc⟩
  by_cases hlt : i < items.length
  · have hd : items[i]? = some items[i] := by simp [hlt]
    rw [List.drop_eq_getElem_cons hlt] at qc
    refine .inr ⟨S.go i Hf' Hc gc ⟨ec.fz, ec.kp⟩ hlt, fun Hn => ∃ Hf' acc dacc, Good G Hf' Hn ∧ Ext G Hf1 H1 Hf' Hn ∧ Hf' D = none ∧ Hn D = some (.lst acc) ∧ DqL K Hf' acc dacc ∧ compV asg ct ce (wipeV ρ vs) (items.drop (i + 1)) dacc (fun ds => Qd (.nw ds)), fun Hn hN => ?_, fun x H2 hy => ?_⟩
    · obtain ⟨Hf2, a2, d2, x1, x2, x3, x4, x5, x6⟩ := hN
      exact ⟨items.length - (i + 1), by omega, Hf2, a2, d2, x1, x2, x3, x4, x5, rfl, hlt, x6⟩
    · obtain ⟨Hf2, g2, e2, dx⟩ := S.yld i _ Hf' Hc x H2 gc ⟨ec.fz, ec.kp⟩ hd hy
      have ec2 := Ext.trans g1 g2 ec e2
      have R2 := ((R.step g1 e1).step g2 ec2).wipes vs
      refine hg Hf0 H0 α _ _ Hf2 H2 x _ _ _ R2 dx qc fun σ3 ρ3 R3 m3 q3 => ⟨wipe_agr m3 hw, ?_⟩
      refine ht Hf0 H0 α σ3 ρ3 Hf2 H2 _ _ R3 q3 fun b Hf4 H4 q4 g4 e4 => ?_
      have ec4 := Ext.trans g1 g4 ec2 e4
      have keep : ∀ {Hf5 H5 : Hp}, Ext G Hf' Hc Hf5 H5 → Hf5 D = none ∧ H5 D = some (.lst acc) := fun {Hf5 H5} ex => by
        refine ⟨(ex.nw D (by rw [aD]; exact fun z => nomatch z)).trans nD, ?_⟩
        have t := ex.kp D (.lst acc) (by rw [off_of hF]; exact aD)
        exact (off_some t).2
      cases b with
      | false =>
        rw [if_neg Bool.false_ne_true] at q4 ⊢
        have ex := Ext.trans gc g4 e2 e4
        obtain ⟨z1, z2⟩ := keep ex
        exact ⟨Hf4, acc, dacc, g4, ec4, z1, z2, dA.mono ex.fz, q4⟩
      | true =>
        rw [if_pos rfl] at q4 ⊢
        refine he Hf0 H0 α σ3 ρ3 Hf4 H4 _ _ (R3.step g4 e4) q4 fun d y Hf5 H5 q5 g5 e5 dy => ?_
        have ex := Ext.trans gc g5 (Ext.trans gc g4 e2 e4) e5
        obtain ⟨z1, z2⟩ := keep ex
        have dA5 := dA.mono ex.fz
        refine ⟨acc, z2, by rw [dA5.length]; exact q5.1, Hf5, acc ++ [y], dacc ++ [d], g5.wr z1 hF, (Ext.trans g1 g5 ec4 e5).wr hD, z1, upd_same, dA5.append (.cons dy .nil), q5.2⟩
  · have e : i = items.length := by omega
    subst e
    rw [List.drop_length] at qc
    refine .inl ⟨S.stop Hf' Hc gc ⟨ec.fz, ec.kp⟩, Post.at R.good e1 k (.nw dacc) _ Hf' Hc qc gc ec ⟨D, acc, rfl, hD, nD, by rw [off_of hF]; exact aD, dA⟩⟩
def yesT : VTT := fun _ Q => Q true
theorem snd_yes {K : PySem.W.Frag} {G : Gd K} : SndT G tYes yesT := fun Hf0 H0 α σ ρ Hf H Qd Q R q k => k true Hf H q R.good Ext.refl
/-- the tests of a comprehension -/
structure VTs (X : Cx) {K : PySem.W.Frag} (G : Gd K) (ifs : List Expr) (tt : TT) (t : VTT) : Prop where
  pe : PTs X ifs tt
  sn : SndT G tt t
section
variable {X : Cx} {K : PySem.W.Frag} {G : Gd K} {e : Expr} {tt : TT} {t : VTT}
theorem vts_nil : VTs X G [] tYes yesT := ⟨pts_nil, snd_yes⟩
theorem vts_one (h : VT X G e tt t) : VTs X G [e] tt t := ⟨pts_one h.pe, h.sn⟩
/-- own: the comprehension's names with their slots -/
theorem ve_lc {elt tg iter : Expr} {ifs : List Expr} {scope : Scope} {pos : Pos} {wi : TI} {g : TG} {te : TE} {src : VTI} {ws : List Nat} {asg : VTG} {ce : VTE} (own : List (Str × Nat)) (hN : X.N.Nodup) (ok : blkC X.N X.env.scope scope own = true) (hi : VIC X G tg iter wi src)
    (hg : ∀ (s : Shared) (H : Hp) (C : Addr) (cl : List (Str × Addr)) (fp : List Addr), VG (X.blk s H scope (compEnvC scope cl C X.env) fp) G tg g ws asg) (ht : ∀ (s : Shared) (H : Hp) (C : Addr) (cl : List (Str × Addr)) (fp : List Addr), VTs (X.blk s H scope (compEnvC scope cl C X.env) fp) G ifs tt t)
    (he : ∀ (s : Shared) (H : Hp) (C : Addr) (cl : List (Str × Addr)) (fp : List Addr), VE (X.blk s H scope (compEnvC scope cl C X.env) fp) G elt te ce) (hw : ∀ i ∈ ws, i ∈ own.map (·.2) := by decide) (hc : X.calm = true := by rfl) (hs : ∀ x, foldedSetIterable iter X.env x = pure x := by intro _; rfl) :
    VE X G (.ListComp elt [⟨tg, iter, ifs, 0⟩] scope pos) (tLc wi g tt te (own.map (·.2))) (lcV src asg t (frzV ce) (own.map (·.2))) :=
  ⟨pe_lc hc hN hi.pe (blkOk_by ok) (fun s H C cl fp => (hg s H C cl fp).pe) (fun s H C cl fp => (ht s H C cl fp).pe) (fun s H C cl fp => (he s H C cl fp).pe) hs,
    snd_lc hi.sn (hg {} (fun _ => none) default [] []).sn (ht {} (fun _ => none) default [] []).sn (vf_of (he {} (fun _ => none) default [] [])).sn hw⟩
end
end TR

set_option maxHeartbeats 400000
namespace TR
open PySem L2 PySem.Spec PyProof.Rows

/-! ### expressions that change an owned list: x.pop(), x.pop(e) -/
abbrev VTX := List Sl → (PyData → List Sl → Prop) → Prop
def SndX {K : PySem.W.Frag} (G : Gd K) (te : TE) (t : VTX) : Prop :=
  ∀ (Hf0 H0 : Hp) (α : Nat → Addr) (σ : L2.St) (ρ : List Sl) (Hf H : Hp) (Qd : PyData → List Sl → Prop) (Q : L2.VK), Rel G Hf0 H0 α σ ρ Hf H → t ρ Qd →
    (∀ d v ρ' Hf' H', Qd d ρ' → Rel G Hf0 H0 α σ ρ' Hf' H' → Same Hf Hf' → Dq K Hf' v d → Q v H') → te σ H Q
structure VX (X : Cx) {K : PySem.W.Frag} (G : Gd K) (e : Expr) (te : TE) (t : VTX) : Prop where
  pe : PE X e te
  sn : SndX G te t
def pureX (s : VTE) : VTX := fun ρ Q => s ρ fun va => va.frz fun d => Q d ρ
def popX (i : Nat) : VTX := fun ρ Q => match ρ[i]? with
  | some (.ow ds) => ∃ d, ds[ds.length - 1]? = some d ∧ Q d (ρ.set i (.ow ds.dropLast))
  | _ => False
def popAtX (i : Nat) (s : VTE) : VTX := fun ρ Q => match ρ[i]? with
  | some (.ow ds) => s ρ fun va => match va.rd with
    | .int j => (-(2 ^ 63) ≤ j ∧ j < 2 ^ 63) ∧ ∃ k d, seqIndex? j ds.length = some k ∧ ds[k]? = some d ∧ Q d (ρ.set i (.ow (ds.eraseIdx k)))
    | _ => False
  | _ => False
section
variable {X : Cx} {K : PySem.W.Frag} {G : Gd K} {e : Expr} {te : TE} {s : VTE} {pos cpos apos p : Pos} {x : Str} {i : Nat}
theorem vx_pure (h : VE X G e te s) : VX X G e te (pureX s) :=
  ⟨h.pe, fun Hf0 H0 α σ ρ Hf H Qd Q R q k => (vf_of h).sn Hf0 H0 α σ ρ Hf H _ _ R q fun d v Hf' H' q g ex r => k d v ρ Hf' H' q (R.step g ex) ex.fz r⟩
theorem tyV_ow {Hf0 H0 : Hp} {α : Nat → Addr} {σ : L2.St} {ρ : List Sl} {Hf H : Hp} {ds : List PyData} (R : Rel G Hf0 H0 α σ ρ Hf H) (h : ρ[i]? = some (.ow ds)) :
    ∃ vs, σ[i]? = some (some (.ref (α i))) ∧ H (α i) = some (.lst vs) ∧ DqL K Hf vs ds ∧ tyV K "list" (.ref (α i)) H := by
  obtain ⟨h1, _, _, vs, h4, h5⟩ := R.sl i _ h
  exact ⟨vs, h1, (off_some h4).2, h5, .inl ⟨rfl, _, SqL.of (off_some h4).2⟩⟩
theorem vx_pop (i : Nat) (h : VE X G (.Name x p) (tVar i) (varV i)) (hK : X.K = K := by rfl) (hbase : attributeBase (.Name x p) "pop" X.env (eval (.Name x p) X.env) = eval (.Name x p) X.env := by rfl) (hline : (apos.endLine == cpos.line) = true := by rfl) :
    VX X G (.Call (.Attribute (.Name x p) "pop" apos) [] [] cpos) (tBM0 K "list" rPop (tVar i)) (popX i) := by
  refine ⟨hK ▸ pe_bm0 PySem.F.plainAttrs_list PySem.F.slot_list_pop PySem.F.type_list_pop mt_pop h.pe hbase (hline := hline), fun Hf0 H0 α σ ρ Hf H Qd Q R q k => ?_⟩
  unfold popX at q
  split at q
  · rename_i ds hi
    obtain ⟨vs, h1, h2, h3, h4⟩ := tyV_ow R hi
    obtain ⟨d, hd, q⟩ := q
    obtain ⟨v, hv, dv⟩ := h3.get hd
    refine ⟨_, h1, h4, _, vs, v, rfl, rfl, h2, by rw [h3.length]; exact hv, ?_⟩
    exact k d v _ Hf _ q (R.mutate hi h3.dropLast) (Same.refl _) dv
  · exact q.elim
theorem vx_popAt (i : Nat) (h : VE X G (.Name x p) (tVar i) (varV i)) (he : VE X G e te s) (hK : X.K = K := by rfl) (hbase : attributeBase (.Name x p) "pop" X.env (eval (.Name x p) X.env) = eval (.Name x p) X.env := by rfl)
    (hfew : ((backTo cpos (starEach [e] X.env)).all (fun x => !x.1) && (backToKw cpos (keywordEach [] X.env)).all (fun x => x.1.isSome) && decide ([e].length + ([] : List Keyword).length + (if ([] : List Keyword).isEmpty then 0 else 1) < 30)) = true := by rfl)
    (hline : (apos.endLine == cpos.line) = true := by rfl) (hs : starEach [e] X.env = (false, eval e X.env) :: starEach [] X.env := by rfl) :
    VX X G (.Call (.Attribute (.Name x p) "pop" apos) [e] [] cpos) (tBM K "list" rPopAt (tVar i) (tCons te tNil)) (popAtX i s) := by
  refine ⟨hK ▸ pe_bm PySem.F.plainAttrs_list PySem.F.slot_list_pop PySem.F.type_list_pop mt_popAt h.pe (pa_cons he.pe pa_nil hs) hbase hfew hline hs, fun Hf0 H0 α σ ρ Hf H Qd Q R q k => ?_⟩
  unfold popAtX at q
  split at q
  · rename_i ds hi
    obtain ⟨vs, h1, h2, h3, h4⟩ := tyV_ow R hi
    refine ⟨_, h1, h4, ?_⟩
    refine he.sn Hf0 H0 α σ ρ Hf H _ _ R q fun va v Hf1 H1 q1 g1 e1 r1 => ?_
    split at q1
    · rename_i j hj
      obtain ⟨⟨b1, b2⟩, kk, d, s1, s2, q1⟩ := q1
      have R1 := R.step g1 e1
      obtain ⟨us, u1, u2, u3, _⟩ := tyV_ow R1 hi
      obtain ⟨y, hy, dy⟩ := u3.get s2
      refine ⟨_, us, j, kk, y, rfl, by rw [r1.int hj], u2, b1, b2, by rw [u3.length]; exact s1, hy, ?_⟩
      exact k d y _ Hf1 _ q1 (R1.mutate hi (u3.eraseIdx kk)) e1.fz dy
    · exact q1.elim
  · exact q.elim

/-! ### statements over owned lists -/
def vAppend (i : Nat) (t : VTX) : VTS := fun D ρ => match ρ[i]? with
  | some (.ow _) => t ρ fun d ρ1 => match ρ1[i]? with
    | some (.ow ds) => ds.length < sizeLine ∧ D.nx (ρ1.set i (.ow (ds ++ [d])))
    | _ => False
  | _ => False
theorem vs_append (i : Nat) {t : VTX} (h : VE X G (.Name x p) (tVar i) (varV i)) (he : VX X G e te t) (hK : X.K = K := by rfl) (hbase : attributeBase (.Name x p) "append" X.env (eval (.Name x p) X.env) = eval (.Name x p) X.env := by rfl)
    (hfew : ((backTo cpos (starEach [e] X.env)).all (fun x => !x.1) && (backToKw cpos (keywordEach [] X.env)).all (fun x => x.1.isSome) && decide ([e].length + ([] : List Keyword).length + (if ([] : List Keyword).isEmpty then 0 else 1) < 30)) = true := by rfl)
    (hline : (apos.endLine == cpos.line) = true := by rfl) (hs : starEach [e] X.env = (false, eval e X.env) :: starEach [] X.env := by rfl) (hsw : swapsWith (.Call (.Attribute (.Name x p) "append" apos) [e] [] cpos) none pos.line X.env = pure false := by rfl) :
    VS X G (.Expr (.Call (.Attribute (.Name x p) "append" apos) [e] [] cpos) pos) (tDrop (tBM K "list" rAppend (tVar i) (tCons te tNil))) (vAppend i t) := by
  refine ⟨ps_expr (hK ▸ pe_bm PySem.F.plainAttrs_list PySem.F.slot_list_append PySem.F.type_list_append mt_append h.pe (pa_cons he.pe pa_nil hs) hbase hfew hline hs) hsw, fun Hf0 H0 α σ ρ Hf H D E R ok q => ?_⟩
  unfold vAppend at q
  split at q
  · rename_i ds0 hi0
    obtain ⟨_, h1, _, _, h4⟩ := tyV_ow R hi0
    refine ⟨_, h1, h4, ?_⟩
    refine he.sn Hf0 H0 α σ ρ Hf H _ _ R q fun d v ρ1 Hf1 H1 q1 R1 s1 dv => ?_
    split at q1
    · rename_i ds hi
      obtain ⟨us, u1, u2, u3, _⟩ := tyV_ow R1 hi
      exact ⟨_, us, v, rfl, rfl, u2, by rw [u3.length]; exact q1.1, ok.nx α σ _ Hf1 _ (R1.mutate hi (u3.append (.cons dv .nil))) s1 q1.2⟩
    · exact q1.elim
  · exact q.elim
def vExtend (i : Nat) (s : VTE) : VTS := fun D ρ => match ρ[i]? with
  | some (.ow ds) => s ρ fun va => match va.rd with
    | .list es => ds.length + es.length ≤ sizeLine ∧ D.nx (ρ.set i (.ow (ds ++ es)))
    | _ => False
  | _ => False
theorem vs_extend (i : Nat) (h : VE X G (.Name x p) (tVar i) (varV i)) (he : VE X G e te s) (hK : X.K = K := by rfl) (hbase : attributeBase (.Name x p) "extend" X.env (eval (.Name x p) X.env) = eval (.Name x p) X.env := by rfl)
    (hfew : ((backTo cpos (starEach [e] X.env)).all (fun x => !x.1) && (backToKw cpos (keywordEach [] X.env)).all (fun x => x.1.isSome) && decide ([e].length + ([] : List Keyword).length + (if ([] : List Keyword).isEmpty then 0 else 1) < 30)) = true := by rfl)
    (hline : (apos.endLine == cpos.line) = true := by rfl) (hs : starEach [e] X.env = (false, eval e X.env) :: starEach [] X.env := by rfl) (hsw : swapsWith (.Call (.Attribute (.Name x p) "extend" apos) [e] [] cpos) none pos.line X.env = pure false := by rfl) :
    VS X G (.Expr (.Call (.Attribute (.Name x p) "extend" apos) [e] [] cpos) pos) (tDrop (tBM K "list" rExtend (tVar i) (tCons te tNil))) (vExtend i s) := by
  refine ⟨ps_expr (hK ▸ pe_bm PySem.F.plainAttrs_list PySem.F.slot_list_extend PySem.F.type_list_extend mt_extend h.pe (pa_cons he.pe pa_nil hs) hbase hfew hline hs) hsw, fun Hf0 H0 α σ ρ Hf H D E R ok q => ?_⟩
  unfold vExtend at q
  split at q
  · rename_i ds hi
    obtain ⟨_, h1, _, _, h4⟩ := tyV_ow R hi
    refine ⟨_, h1, h4, ?_⟩
    refine he.sn Hf0 H0 α σ ρ Hf H _ _ R q fun va v Hf1 H1 q1 g1 e1 r1 => ?_
    split at q1
    · rename_i es hd
      obtain ⟨b, ws, rfl, w1, w2⟩ := r1.lst g1 hd
      have R1 := R.step g1 e1
      obtain ⟨us, u1, u2, u3, _⟩ := tyV_ow R1 hi
      exact ⟨_, b, us, ws, rfl, rfl, u2, w1, by rw [u3.length, w2.length]; exact q1.1, ok.nx α σ _ Hf1 _ (R1.mutate hi (u3.append w2)) e1.fz q1.2⟩
    · exact q1.elim
  · exact q.elim
/-- y = x.pop(..) -/
def vSetX (i : Nat) (t : VTX) : VTS := fun D ρ => t ρ fun d ρ1 => D.nx (ρ1.set i (.fz d))
theorem vs_setX (i : Nat) {t : VTX} (h : VX X G e te t) (hN : X.N.Nodup) (hi : X.N[i]? = some x := by rfl) (hx : Loc X.env.scope x := by first | exact Or.inl rfl | exact Or.inr rfl) (hf : X.fn x = true ∨ X.env.scope.names.lookup x = some .local := by first | exact .inl rfl | exact .inr rfl)
    (hs : swapsWithSole [.Name x p] e pos.line X.env = pure false := by rfl) (hw : swappedStores [.Name x p] e X.env = pure none := by rfl) (h1 : (assignEach [.Name x p] X.env).map (·.2) = [assign (.Name x p) X.env] := by rfl) :
    VS X G (.Assign [.Name x p] e pos) (tAsg te (gName i)) (vSetX i t) := by
  refine ⟨ps_asg h.pe (pg_name hN hi hx hf) hs hw h1, fun Hf0 H0 α σ ρ Hf H D E R ok q => ?_⟩
  exact h.sn Hf0 H0 α σ ρ Hf H _ _ R q fun d v ρ1 Hf1 H1 q1 R1 s1 dv => ok.nx α _ _ Hf1 H1 (R1.setFz dv) s1 q1
/-- x[e] = v, x an owned list -/
def vStore (i : Nat) (s t : VTE) : VTS := fun D ρ => s ρ fun va => va.frz fun d => t ρ fun ix => match ix.rd, ρ[i]? with
  | .int j, some (.ow ds) => ∃ k, ixN ds.length j = some k ∧ D.nx (ρ.set i (.ow (ds.set k d)))
  | _, _ => False
theorem vs_store (i : Nat) {b : Expr} {tb : TE} {t : VTE} (h : VE X G (.Name x p) (tVar i) (varV i)) (he : VE X G e te s) (hb : VE X G b tb t) (hn : ∀ σ : L2.St, i < σ.length → True := by intros; trivial)
    (ha : ∀ v, assign (.Subscript (.Name x p) b cpos) X.env v = (do
      let ov ← holding [v] (eval (.Name x p) X.env)
      let iv ← holding [v, ov] (eval b X.env)
      standAt cpos
      holding [v, ov, iv] (setItem ov iv v)
      release [v, ov, iv] []) := by intro _; rfl)
    (hs : swapsWithSole [.Subscript (.Name x p) b cpos] e pos.line X.env = pure false := by rfl) (hw : swappedStores [.Subscript (.Name x p) b cpos] e X.env = pure none := by rfl) (h1 : (assignEach [.Subscript (.Name x p) b cpos] X.env).map (·.2) = [assign (.Subscript (.Name x p) b cpos) X.env] := by rfl) :
    VS X G (.Assign [.Subscript (.Name x p) b cpos] e pos) (tAsg te (gSub (tVar i) tb rSetL)) (fun D ρ => (∃ ds, ρ[i]? = some (.ow ds)) ∧ vStore i s t D ρ) := by
  refine ⟨ps_asg he.pe (pg_sub h.pe hb.pe set_list ha) hs hw h1, fun Hf0 H0 α σ ρ Hf H D E R ok q => ?_⟩
  obtain ⟨⟨ds, hi⟩, q⟩ := q
  refine (vf_of he).sn Hf0 H0 α σ ρ Hf H _ _ R q fun d v Hf1 H1 q1 g1 e1 dv => ?_
  have R1 := R.step g1 e1
  obtain ⟨_, h1, _, _, _⟩ := tyV_ow R1 hi
  refine ⟨_, h1, ?_⟩
  refine hb.sn Hf0 H0 α σ ρ Hf1 H1 _ _ R1 q1 fun ix iv Hf2 H2 q2 g2 e2 r2 => ?_
  rw [hi] at q2
  split at q2
  · rename_i j ds' hj hq
    cases hq
    obtain ⟨kk, hk, q2⟩ := q2
    have R2 := R1.step g2 e2
    obtain ⟨us, u1, u2, u3, _⟩ := tyV_ow R2 hi
    exact ⟨_, us, j, kk, rfl, r2.int hj, u2, by rw [u3.length]; exact hk, ok.nx α σ _ Hf2 _ (R2.mutate hi (u3.set (dv.mono e2.fz) kk)) (e1.fz.trans e2.fz) q2⟩
  · exact q2.elim

/-! ### a, b = e1, e2 -/
def vPar2 (i j : Nat) (s t : VTE) : VTS := fun D ρ => s ρ fun a => t ρ fun b => setV i ρ a fun ρ1 => setV j ρ1 b D.nx
theorem vs_par2 (i j : Nat) {y : Str} {a b : Expr} {ta tb : TE} {s t : VTE} {px py pt : Pos} {kt k2 pt2} (ha : VE X G a ta s) (hb : VE X G b tb t) (hN : X.N.Nodup) (hi : X.N[i]? = some x := by rfl) (hj : X.N[j]? = some y := by rfl) (hij : i ≠ j := by decide)
    (hx : X.env.scope.names.lookup x = some .local := by rfl) (hy : X.env.scope.names.lookup y = some .local := by rfl) (hc : X.calm = true := by rfl)
    (hw : swappedStores [.Tuple [.Name x px, .Name y py] kt pt] (.Tuple [a, b] k2 pt2) X.env = pure (some [x, y]) := by rfl)
    (hs : swapsWithSole [.Tuple [.Name x px, .Name y py] kt pt] (.Tuple [a, b] k2 pt2) pos.line X.env = pure false := by rfl) (n1 : starEach [a, b] X.env = (false, eval a X.env) :: starEach [b] X.env := by rfl) (n2 : starEach [b] X.env = (false, eval b X.env) :: starEach [] X.env := by rfl) :
    VS X G (.Assign [.Tuple [.Name x px, .Name y py] kt pt] (.Tuple [a, b] k2 pt2) pos) (tPar i j (tCons ta (tCons tb tNil))) (vPar2 i j s t) := by
  refine ⟨ps_par hc hN hi hj hij hx hy (pa_cons ha.pe (pa_cons hb.pe pa_nil n2) n1) hw hs, fun Hf0 H0 α σ ρ Hf H D E R ok q => ?_⟩
  refine ha.sn Hf0 H0 α σ ρ Hf H _ _ R q fun va v Hf1 H1 q1 g1 e1 r1 => ?_
  refine hb.sn Hf0 H0 α σ ρ Hf1 H1 _ _ (R.step g1 e1) q1 fun vb w Hf2 H2 q2 g2 e2 r2 => ?_
  obtain ⟨α1, ρ1, R1, q3⟩ := R.setV g1 e1 r1 q2
  obtain ⟨α2, ρ2, R2, q4⟩ := R1.setV g2 e2 r2 q3
  exact ⟨v, w, rfl, ok.nx α2 _ ρ2 Hf2 H2 R2 (e1.fz.trans e2.fz) q4⟩
def vPar3 (i j l : Nat) (s t u : VTE) : VTS := fun D ρ => s ρ fun a => t ρ fun b => u ρ fun c => setV i ρ a fun ρ1 => setV j ρ1 b fun ρ2 => setV l ρ2 c D.nx
theorem vs_par3 (i j l : Nat) {y z : Str} {a b c : Expr} {ta tb tc : TE} {s t u : VTE} {px py pz pt : Pos} {kt k2 pt2} (ha : VE X G a ta s) (hb : VE X G b tb t) (hd : VE X G c tc u) (hN : X.N.Nodup) (hi : X.N[i]? = some x := by rfl) (hj : X.N[j]? = some y := by rfl) (hl : X.N[l]? = some z := by rfl) (hij : i ≠ j := by decide) (hil : i ≠ l := by decide) (hjl : j ≠ l := by decide)
    (hx : X.env.scope.names.lookup x = some .local := by rfl) (hy : X.env.scope.names.lookup y = some .local := by rfl) (hz : X.env.scope.names.lookup z = some .local := by rfl) (hc : X.calm = true := by rfl)
    (hw : swappedStores [.Tuple [.Name x px, .Name y py, .Name z pz] kt pt] (.Tuple [a, b, c] k2 pt2) X.env = pure (some [x, y, z]) := by rfl)
    (hs : swapsWithSole [.Tuple [.Name x px, .Name y py, .Name z pz] kt pt] (.Tuple [a, b, c] k2 pt2) pos.line X.env = pure false := by rfl) (n1 : starEach [a, b, c] X.env = (false, eval a X.env) :: starEach [b, c] X.env := by rfl) (n2 : starEach [b, c] X.env = (false, eval b X.env) :: starEach [c] X.env := by rfl) (n3 : starEach [c] X.env = (false, eval c X.env) :: starEach [] X.env := by rfl) :
    VS X G (.Assign [.Tuple [.Name x px, .Name y py, .Name z pz] kt pt] (.Tuple [a, b, c] k2 pt2) pos) (tPar3 i j l (tCons ta (tCons tb (tCons tc tNil)))) (vPar3 i j l s t u) := by
  refine ⟨ps_par3 hc hN hi hj hl hij hil hjl hx hy hz (pa_cons ha.pe (pa_cons hb.pe (pa_cons hd.pe pa_nil n3) n2) n1) hw hs, fun Hf0 H0 α σ ρ Hf H D E R ok q => ?_⟩
  refine ha.sn Hf0 H0 α σ ρ Hf H _ _ R q fun va v Hf1 H1 q1 g1 e1 r1 => ?_
  refine hb.sn Hf0 H0 α σ ρ Hf1 H1 _ _ (R.step g1 e1) q1 fun vb w Hf2 H2 q2 g2 e2 r2 => ?_
  refine hd.sn Hf0 H0 α σ ρ Hf2 H2 _ _ ((R.step g1 e1).step g2 e2) q2 fun vc w3 Hf3 H3 q3 g3 e3 r3 => ?_
  obtain ⟨α1, ρ1, R1, q4⟩ := R.setV g1 e1 r1 q3
  obtain ⟨α2, ρ2, R2, q5⟩ := R1.setV g2 e2 r2 q4
  obtain ⟨α3, ρ3, R3, q6⟩ := R2.setV g3 e3 r3 q5
  exact ⟨v, w, w3, rfl, ok.nx α3 _ ρ3 Hf3 H3 R3 ((e1.fz.trans e2.fz).trans e3.fz) q6⟩
/-- targets = e, the value data -/
def vAsg (s : VTE) (t : VTG) : VTS := fun D ρ => s ρ fun va => va.frz fun d => t d ρ D.nx
theorem vs_asg {tg : Expr} {g : TG} {ws : List Nat} {t : VTG} (h : VE X G e te s) (hg : VG X G tg g ws t) (hs : swapsWithSole [tg] e pos.line X.env = pure false := by rfl) (hw : swappedStores [tg] e X.env = pure none := by rfl)
    (h1 : (assignEach [tg] X.env).map (·.2) = [assign tg X.env] := by rfl) : VS X G (.Assign [tg] e pos) (tAsg te g) (vAsg s t) := by
  refine ⟨ps_asg h.pe hg.pe hs hw h1, fun Hf0 H0 α σ ρ Hf H D E R ok q => ?_⟩
  refine (vf_of h).sn Hf0 H0 α σ ρ Hf H _ _ R q fun d v Hf1 H1 q1 g1 e1 dv => ?_
  exact hg.sn Hf0 H0 α σ ρ Hf1 H1 v d _ _ (R.step g1 e1) dv q1 fun σ' ρ' R' _ q' => ok.nx α σ' ρ' Hf1 H1 R' e1.fz q'
end

/-! ### a def's body -/
def toSl : Va → Sl
  | .fz d => .fz d
  | .br ds => .br ds
  | .dk => .dk
  | .nw _ => .un
def ρ0 (N : List Str) (vas : List Va) : List Sl := vas.map toSl ++ List.replicate (N.length - vas.length) .un
theorem rel0 {K : PySem.W.Frag} {G : Gd K} {Hs Hf H : Hp} {vs : List V} {vas : List Va} (N : List Str) (g : Good G Hf H) (r : RVs G Hs Hf H vs vas) : Rel G Hf H (fun _ => 0) (L2.start N vs) (ρ0 N vas) Hf H := by
  have hl := r.length
  refine ⟨g, g, Ext.refl, ?_, fun i s h => ?_, fun i j ds es h1 h2 _ => ?_⟩
  · unfold L2.start ρ0
    rw [List.length_append, List.length_append, List.length_map, List.length_map, List.length_replicate, List.length_replicate, hl]
  · unfold ρ0 at h
    by_cases hi : i < vas.length
    · rw [List.getElem?_append_left (by simpa using hi), List.getElem?_map] at h
      cases e : vas[i]? with
      | none => rw [e] at h; cases h
      | some va =>
        rw [e] at h
        cases h
        obtain ⟨v, hv, q⟩ := r.get e
        have hs : (L2.start N vs)[i]? = some (some v) := by
          unfold L2.start
          rw [List.getElem?_append_left (by simpa [hl] using hi), List.getElem?_map, hv]
          rfl
        cases va with
        | fz d => exact ⟨v, hs, q⟩
        | nw ds => trivial
        | br ds =>
          obtain ⟨a, ws, rfl, h4, h5⟩ := q
          exact ⟨a, ws, hs, h4, h5⟩
        | dk =>
          have e2 : v = .ref G.dk := q
          subst e2
          exact hs
    · rw [List.getElem?_append_right (by simpa using Nat.le_of_not_lt hi), List.getElem?_replicate] at h
      split at h
      · cases h; trivial
      · cases h
  · exfalso
    unfold ρ0 at h1
    by_cases hi : i < vas.length
    · rw [List.getElem?_append_left (by simpa using hi), List.getElem?_map] at h1
      cases e : vas[i]? with
      | none => rw [e] at h1; cases h1
      | some va => rw [e] at h1; cases va <;> cases h1
    · rw [List.getElem?_append_right (by simpa using Nat.le_of_not_lt hi), List.getElem?_replicate] at h1
      split at h1 <;> cases h1
section
variable {P : Program} {w : World} {mg : Str → Option Value} {base : Heap}
/-- a def by its body's reading over the heap -/
theorem fnG_ok {K : PySem.W.Frag} {x qual : Str} {st : Stmt} {f : Addr} {fd : FuncData} {N ps : List Str} {k : Nat} {sp : Sp} (F : Fun K x qual st f fd) (S : FnScope N ps (defScope st)) (ar : ∀ vs H Q E, sp vs H Q E → vs.length = ps.length)
    (body : ∀ (cdv : Value) (A : Around) (out : List Env) (s : Shared) (H : Hp) (vs : List V) (Q : L2.VK) (E : XK), Rm k (A.deeper (envOfC qual (defScope st) s.heap.objs.size f cdv)) → sp vs H Q E →
      ∃ t, PSs (cxOf CX0 P w K mg base N qual (defScope st) f cdv A out s H E).nox (defBody st) t ∧ t { nx := fun _ H' => Q .non H', rt := Q } (L2.start N vs) H) :
    FnG P w K mg base CX0 (k + 1) f fd ps sp := by
  obtain ⟨oc, od, kV, doc, pm, an, cdv, ct, osl, rfl, lk, hcd⟩ := F.ex
  refine ⟨ar, fun A out s H ag us vs Q E hr e0 hb r hsp => ?_⟩
  have KX : K.In s.heap := e0.mod.kin.keeps fun b o e => (e0.bs b o e).1
  have bound : ∀ y ∈ ps.zip us, (defScope st).names.lookup y.1 = some .local ∨ ((defScope st).names.lookup y.1 = some .cell ∧ ((cellsFrom (s.heap.objs.size + 1) (defScope st).names []).lookup y.1).isSome = true) := by
    rintro ⟨n, v⟩ hy
    refine (S.par n (List.of_mem_zip hy).1).imp id fun q => ⟨q, ?_⟩
    exact PySem.W.cellsFrom_some _ _ _ (.inl q)
  refine codeAny_call_function hr.room.depth (KX _ _ lk) rfl S.co S.gen rfl (PySem.W.codeRec_of KX hcd) (hb _ _ _ _ (wpAny_newFunctionEnv_cells S.kind bound ?_))
  intro env he s1 x1
  subst he
  have lim := (e0.mod.nolimit.keeps fun b o e => (e0.bs b o e).1 : s.heap.NoLimit)
  refine ⟨lim.keeps x1.toInCall.keep, codeAny_func ?_⟩
  obtain ⟨t, V, read⟩ := body cdv A out s H vs Q E ⟨⟨hr.room.hd, (hr.room.deeper _).dp, (hr.room.deeper _).un⟩, hr.sky⟩ hsp
  have I := inv_start (CX := CX0) (E := E) S hr.room.hd e0 (ar _ _ _ _ hsp) r x1
  have run := V.nox.run [] s1 (L2.start N vs) H _ I read
  clear V read hsp
  refine wpAny_mono run (fun fl s' hs => ?_) fun _ _ z => z
  cases fl with
  | ret u =>
    obtain ⟨v, σ', H', J, rv', q⟩ := hs
    exact ⟨v, H', J.os, J.bare, J.base, J.hok, rv', q⟩
  | next =>
    obtain ⟨σ', H', J, q⟩ := hs
    exact ⟨V.non, H', J.os, J.bare, J.base, J.hok, rfl, q⟩
  | brk =>
    obtain ⟨_, _, _, q⟩ := hs
    exact False.elim q
  | cont =>
    obtain ⟨_, _, _, q⟩ := hs
    exact False.elim q
/-- THE RULE: a def by its body's reading over data -/
theorem fnV_ok {K : PySem.W.Frag} {x qual : Str} {st : Stmt} {f : Addr} {fd : FuncData} {N ps : List Str} {k : Nat} {Fm : Gd K → Prop} {sp : List Va → (Va → Prop) → Prop} (F : Fun K x qual st f fd) (S : FnScope N ps (defScope st)) (ar : ∀ vas Q, sp vas Q → vas.length = ps.length)
    (body : ∀ (cdv : Value) (A : Around) (outer : List Env) (s : Shared) (H : Hp) (E : XK), Rm k (A.deeper (envOfC qual (defScope st) s.heap.objs.size f cdv)) →
      ∃ t, (∀ G : Gd K, Fm G → ∃ ts, VSs (cxOf CX0 P w K mg base N qual (defScope st) f cdv A outer s H E).nox G (defBody st) ts t) ∧ ∀ vas Q, sp vas Q → t { nx := fun _ => Q (.fz .none), rt := Q } (ρ0 N vas)) :
    FnV P w mg base K Fm (k + 1) f fd ps sp := by
  have len : ∀ vs H Q E, liftAny Fm sp vs H Q E → vs.length = ps.length := fun vs H Q E h => by
    obtain ⟨G, _, Hs, Hf, vas, Qd, _, r, hsp, _⟩ := h
    rw [r.length]
    exact ar _ _ hsp
  refine fnG_ok F S len fun cdv A out s H vs Q E hr hsp => ?_
  obtain ⟨t, VV, hV⟩ := body cdv A out s H E hr
  obtain ⟨G, hG, Hs, Hf, vas, Qd, g, rv, hsp', kk⟩ := id hsp
  obtain ⟨ts, V⟩ := VV G hG
  refine ⟨ts, V.pe, ?_⟩
  refine V.sn Hf H (fun _ => 0) (L2.start N vs) (ρ0 N vas) Hf H { nx := fun _ => Qd (.fz .none), rt := Qd } _ (rel0 N g rv) ⟨fun α σ ρ Hf1 H1 R1 _ q => ?_, fun _ _ _ _ _ _ _ q => q.elim, fun _ _ _ _ _ _ _ q => q.elim, fun va v Hf1 H1 g1 e1 r1 rt q => kk va v Hf1 H1 q rt g1 e1 r1⟩ (hV vas Qd hsp')
  exact kk (.fz .none) .non Hf1 H1 q trivial R1.good R1.ext Dq.non
/-- a def of the text that keeps its promise -/
structure HasV (P : Program) (w : World) (mg : Str → Option Value) (base : Heap) {K : PySem.W.Frag} (Fm : Gd K → Prop) (k : Nat) (st : Stmt) (x : Str) (ps : List Str) (sp : List Va → (Va → Prop) → Prop) : Prop where
  ex : ∃ f fd, Fun K x x st f fd ∧ mg x = some (.ref f) ∧ FnV P w mg base K Fm k f fd ps sp
end

/-! ### the law's own end -/
section
variable {P : Program} {w : World} {K : PySem.W.Frag} {mg mb : Str → Option Value}
/-- what the heap of the script is made of -/
theorem script_heap {s : Shared} {a : Addr} {vs : List Value} {ns : List Int} (KX : K.In s.heap) (ha : s.heap.get? a = some { cls := .type "list", data := .seq vs.toArray }) (hi : IntsAre vs ns) (hl : ns.length ≤ sizeLine) :
    ∃ H : Hp, Only H ∧ SqL K H a (ns.map V.int) ∧ HOk P w H s.heap ∧ (∀ b, H b ≠ none → b = a) ∧ (H a ≠ none → K.lookup a = none) := by
  have rv := L2.vals_ints hi
  cases hk : K.lookup a with
  | some o =>
    have e := KX a o hk
    rw [ha] at e
    cases e
    refine ⟨fun _ => none, fun _ => .inl rfl, .inr ⟨_, vs.toArray, _, hk, rfl, rfl, rfl, ?_, by simpa using rv⟩, ?_, ?_, ?_⟩
    · rw [List.size_toArray, hi.length]
      exact hl
    · intro b u z
      exact nomatch z
    · exact fun b z => absurd rfl z
    · exact fun z => absurd rfl z
  | none =>
    let Hs : Hp := upd (fun _ => none) a (.frz { cls := .type "list", data := .seq vs.toArray } (.lst (ns.map V.int)))
    have at_a : Hs a = some (.frz { cls := .type "list", data := .seq vs.toArray } (.lst (ns.map V.int))) := upd_same
    have else_ : ∀ b, b ≠ a → Hs b = none := fun b hb => upd_ne hb
    refine ⟨Hs, fun b => ?_, .inl (.inr ⟨_, at_a⟩), fun b u z => ?_, fun b z => ?_, fun _ => rfl⟩
    · by_cases hb : b = a
      · subst hb; exact .inr ⟨_, _, at_a⟩
      · exact .inl (else_ b hb)
    · by_cases hb : b = a
      · subst hb
        rw [at_a] at z
        cases z
        refine ⟨ha, ?_, vs, _, rv, ha⟩
        rw [List.length_map]
        exact hl
      · rw [else_ b hb] at z
        cases z
    · by_cases hb : b = a
      · exact hb
      · exact absurd (else_ b hb) z
/-- the law is called at the foot of the stack -/
theorem law_end {k : Nat} {fa a : Addr} {fd : FuncData} {x : Str} {sp : Sp} {s : Shared} {vs : List Value} {ns : List Int}
    (KX : K.In s.heap) (hns : s.heap.Ns mainGlobals mg) (hb : s.heap.Ns builtinsNs mb) (hbb : ∀ x : Str, x ≠ "__name__" → mb x = bootBuiltins x) (lim : s.heap.NoLimit) (hg : s.gens = #[])
    (ha : s.heap.get? a = some { cls := .type "list", data := .seq vs.toArray }) (hi : IntsAre vs ns) (hl : ns.length ≤ sizeLine) (hr : Room k callerA)
    (F : ∀ base : Heap, K.In base → base.Ns mainGlobals mg → FnG P w K mg base CX0 k fa fd [x] sp) (hbind : ∀ (s : Shared) (u : Value), BindsTo s fd ⟨[u], []⟩ [(x, u)])
    (hsp : ∀ H : Hp, Only H → SqL K H a (ns.map V.int) → sp [.ref a] H (fun v _ => v = .bl true) fun _ _ _ => False) :
    codeAny (model P w) callerA (.call (.ref fa) ⟨[.ref a], []⟩) (fun r s' => r = .ok (.ret (.bool true)) ∧ PySem.OldK s.heap s'.heap ∧ s'.os = s.os ∧ AllBare s'.gens) s := by
  obtain ⟨H, hO, hS, hok, hA, hK⟩ := script_heap (P := P) (w := w) KX ha hi hl
  have onlyA : ∀ {b : Addr} {o : Obj}, s.heap.get? b = some o → (b = a → False) → (hidT s.heap H).get? b = some o := fun {b o} e n => hidT_get e (by
    cases q : H b with
    | none => rfl
    | some u => exact (n (hA b (by rw [q]; exact fun z => nomatch z))).elim)
  have nsK : ∀ {b : Addr} {m : Str → Option Value}, s.heap.Ns b m → (hidT s.heap H).Ns b m := fun {b m} h => by
    obtain ⟨o, es, ep, e, d, r⟩ := h
    refine ⟨o, es, ep, onlyA e fun z => ?_, d, r⟩
    subst z
    rw [ha] at e
    cases e
    cases d
  have hKb : K.In (hidT s.heap H) := fun b o e => hidT_get (KX b o e) (by
    cases q : H b with
    | none => rfl
    | some u =>
      have z := hA b (by rw [q]; exact fun z => nomatch z)
      subst z
      rw [hK (by rw [q]; exact fun z => nomatch z)] at e
      cases e)
  have M : Mod K mg (hidT s.heap H) := by
    obtain ⟨mc, c1, c2⟩ := lim
    exact ⟨hKb, nsK hns, ⟨mb, nsK hb, hbb⟩, ⟨mc, nsK c1, c2⟩⟩
  have e0 : Env0 P w K mg (hidT s.heap H) callerA [] s H := by
    refine ⟨rfl, M, fun b o e => of_hidT e, Nat.le_of_eq (hidT_size _ _), trivial, fun b hb => ?_, hok, .of_eq hg⟩
    exact absurd (show b ∈ ([] : List Addr) from hb) (by simp)
  have run := (F _ hKb (nsK hns)).go callerA [] s H ⟨[.ref a], []⟩ [.ref a] [.ref a] _ _ ⟨hr, rfl⟩ e0 (hbind s (.ref a)) (.cons rfl .nil) (hsp H hO hS)
  refine codeAny_mono run fun r s' h => ?_
  match r, h with
  | .error e, h => exact False.elim h
  | .ok .next, h => exact False.elim h
  | .ok .brk, h => exact False.elim h
  | .ok .cont, h => exact False.elim h
  | .ok (.ret u), h =>
    obtain ⟨v, H', os, bare, un, hok', r', q⟩ := h
    cases (show v = .bl true from q)
    cases (show u = Value.bool true from r')
    refine ⟨rfl, PySem.OldK.of_keep fun b o e => ?_, os, bare⟩
    rcases hO b with z | ⟨ob, xs, z⟩
    · refine un.keep b o e z (fun y => ?_) fun y => ?_
      · exact absurd (show b ∈ ([] : List Addr) from y) (by simp)
      · exact absurd y (by simp)
    · have e1 := (hok b _ z).1
      have e2 := (hok' b _ (un.frzs b ob _ z)).1
      rw [e] at e1
      cases e1
      exact e2
/-- the law's promise -/
def spLaw (K : PySem.W.Frag) : Sp := fun vs H Q _ => ∃ (a : Addr) (ns : List Int), vs = [.ref a] ∧ SqL K H a (ns.map V.int) ∧ ns.length ≤ 63 ∧ Only H ∧ ∀ H', Q (.bl true) H'
theorem walkG {l : PySem.W.OpenLaw} {k : Nat} {q : Program} {loose : List Str} {XP : (Str → Option Value) → Heap → Prop} {YP : World → Heap → Prop} {d : DefRec} {K : Params → PySem.W.Frag} {x : Str}
    (hn : l.most = some 63) (hdf : d.params.defaults = []) (hr : Room k callerA) (hY : ∀ (w : World) (h : Heap), YP w h → (K w.params).In h)
    (F : ∀ (w : World) (mg : Str → Option Value) (fa : Addr) (h : Heap), (K w.params).In h → h.Ns mainGlobals mg → mg d.name = some (.ref fa) →
      ∃ fd : FuncData, (∀ (s : Shared) (u : Value), BindsTo s fd ⟨[u], []⟩ [(x, u)]) ∧ ∀ base : Heap, (K w.params).In base → base.Ns mainGlobals mg → FnG l.prog w (K w.params) mg base CX0 k fa fd [x] (spLaw (K w.params))) :
    PySem.W.WalkO q loose XP YP l.row.toRowW d [] (fun f vs => PySem.call f vs) := by
  refine Att.attach_call hn hdf ?_
  intro w s₀ s mg mb fa o pm cd doc a vs ns G Y ho hd hcd hmg hobj hints hlen hg
  have KX := hY w _ Y
  obtain ⟨fd, hb, hF⟩ := F w mg fa _ KX G.T.g hmg
  exact law_end KX G.T.g G.T.b G.T.builtins G.T.nolimit hg hobj hints (Nat.le_trans hlen (by decide)) hr hF hb fun H hO hS => ⟨a, ns, rfl, hS, hlen, hO, fun _ => rfl⟩
end
end TR

set_option maxHeartbeats 1000000
namespace TR
open PySem L2 PySem.Spec PyProof.Rows

/-! ### ints out of data -/
def ints? : List PyData → Option (List Int)
  | [] => some []
  | .int i :: ds => (ints? ds).map (i :: ·)
  | _ => none
theorem ints?_map : ∀ ns : List Int, ints? (ns.map .int) = some ns
  | [] => rfl
  | n :: ns => by
    show (ints? (ns.map .int)).map (n :: ·) = _
    rw [ints?_map ns]
    rfl
theorem of_ints? : ∀ {ds : List PyData} {ns : List Int}, ints? ds = some ns → ds = ns.map .int
  | [], _, h => by cases h; rfl
  | .int i :: ds, ns, h => by
    have h' : (ints? ds).map (i :: ·) = some ns := h
    cases e : ints? ds with
    | none => rw [e] at h'; cases h'
    | some ms =>
      rw [e] at h'
      cases h'
      rw [of_ints? e]
      rfl

/-! ### sum, min, max of ints, whatever they stand in -/
def rSumA (K : PySem.W.Frag) : List V → Hp → L2.VK → Prop := fun vs H Q => ∃ (a : Addr) (ns : List Int), vs = [V.ref a] ∧ (SqL K H a (ns.map V.int) ∨ SqT K H a (ns.map V.int)) ∧ Q (.int ns.sum) H
theorem cr_sumA {X : Cx} (hc : X.calm = true) : CallR X (.builtin "sum") (rSumA X.K) := by
  intro pins s σ H vs us Q I r h
  obtain ⟨a, ns, rfl, hs | hs, q⟩ := h
  · exact cr_sum hc pins s σ H _ us Q I r ⟨a, ns, rfl, hs, q⟩
  · obtain ⟨its, rv, ht, _⟩ := I.tuple hs
    rw [Vals.ref1 r]
    have hi := rv.ints
    obtain ⟨xs, hx⟩ := hi.allInts.items
    have hn : numsOf its.toArray.toList = ns := by
      rw [show its.toArray.toList = its from rfl]
      exact hi.numsOf
    have ht' : s.heap.IsTuple a its.toArray := ht
    rw [hx] at hn ht'
    rw [nums_intItems] at hn
    refine PySem.W.ktm_sumG (I.ok.hd hc) ht' fun h' tk t' hk => ?_
    rw [preSum_eq, List.take_of_length_le (by simp), hn]
    exact ⟨.int _, H, I.kept hk, ⟨_, rfl⟩, q⟩
def nseq : PyData → Option (List Int)
  | .list ds => ints? ds
  | .tuple ds => ints? ds
  | _ => none
theorem RV.nums {K : PySem.W.Frag} {G : Gd K} {Hs Hf H : Hp} {v : V} {va : Va} {ns : List Int} (g : Good G Hf H) (r : RV G Hs Hf H v va) (h : nseq va.rd = some ns) : ∃ a, v = .ref a ∧ (SqL K H a (ns.map V.int) ∨ SqT K H a (ns.map V.int)) := by
  unfold nseq at h
  split at h
  · rename_i ds hd
    rw [of_ints? h] at hd
    obtain ⟨a, vs, rfl, h1, h2⟩ := r.lst g hd
    rw [DqL.ints h2] at h1
    exact ⟨a, rfl, .inl (SqL.of h1)⟩
  · rename_i ds hd
    rw [of_ints? h] at hd
    obtain ⟨a, vs, rfl, h1, h2⟩ := r.tup g hd
    rw [DqL.ints h2] at h1
    exact ⟨a, rfl, .inr (SqT.mono g.sub h1)⟩
  · cases h
def sumC : List Va → (Va → Prop) → Prop := fun vas Q => match vas with
  | [x] => match nseq x.rd with
    | some ns => Q (.fz (.int ns.sum))
    | none => False
  | _ => False
theorem sc_sum {K : PySem.W.Frag} {G : Gd K} : SndC G (rSumA K) sumC := by
  intro Hs Hf H vs vas Qd Q g r q k
  unfold sumC at q
  split at q
  · cases r with
    | cons r1 r2 =>
      cases r2
      split at q
      · rename_i ns hn
        obtain ⟨a, rfl, h⟩ := r1.nums g hn
        exact ⟨a, ns, rfl, h, k.flat g q (.int _)⟩
      · exact q.elim
  · exact q.elim
theorem dataLt_int (a b : Int) : PySem.W.dataLt (.int a) (.int b) = decide (a < b) := by
  have e := congrFun (congrFun (PySem.W.dataLe_int (fun n : Int => n)) b) a
  have e2 : PySem.W.dataLe false (fun b : Int => PyData.int b) b a = !PySem.W.dataLt (.int a) (.int b) := by
    rw [PySem.W.dataLe_eq]
    rfl
  rw [e2] at e
  have e3 : PySem.W.dataLt (.int a) (.int b) = !decide (b ≤ a) := by
    rw [← e, Bool.not_not]
  rw [e3, Bool.eq_iff_iff]
  simp

theorem minI (x : Int) (xs : List Int) : ∃ m, PySem.W.minD (.int x) (xs.map .int) = .int m ∧ m ∈ x :: xs ∧ ∀ y ∈ x :: xs, m ≤ y := by
  unfold PySem.W.minD
  induction xs generalizing x with
  | nil => exact ⟨x, rfl, by simp, by simp⟩
  | cons y ys ih =>
    rw [List.map_cons, List.foldl_cons, dataLt_int]
    by_cases h : y < x
    · rw [if_pos (decide_eq_true h)]
      obtain ⟨m, h1, h2, h3⟩ := ih y
      refine ⟨m, h1, List.mem_cons_of_mem _ h2, fun z hz => ?_⟩
      rcases List.mem_cons.mp hz with rfl | hz
      · have := h3 y (by simp)
        omega
      · exact h3 z hz
    · rw [if_neg (by simpa using h)]
      obtain ⟨m, h1, h2, h3⟩ := ih x
      refine ⟨m, h1, ?_, fun z hz => ?_⟩
      · rcases List.mem_cons.mp h2 with rfl | h2
        · simp
        · exact List.mem_cons_of_mem _ (List.mem_cons_of_mem _ h2)
      · rcases List.mem_cons.mp hz with rfl | hz
        · exact h3 _ (by simp)
        · rcases List.mem_cons.mp hz with rfl | hz
          · have := h3 x (by simp)
            omega
          · exact h3 z (List.mem_cons_of_mem _ hz)
theorem maxI (x : Int) (xs : List Int) : ∃ m, PySem.W.maxD (.int x) (xs.map .int) = .int m ∧ m ∈ x :: xs ∧ ∀ y ∈ x :: xs, y ≤ m := by
  unfold PySem.W.maxD
  induction xs generalizing x with
  | nil => exact ⟨x, rfl, by simp, by simp⟩
  | cons y ys ih =>
    rw [List.map_cons, List.foldl_cons, dataLt_int]
    by_cases h : x < y
    · rw [if_pos (decide_eq_true h)]
      obtain ⟨m, h1, h2, h3⟩ := ih y
      refine ⟨m, h1, List.mem_cons_of_mem _ h2, fun z hz => ?_⟩
      rcases List.mem_cons.mp hz with rfl | hz
      · have := h3 y (by simp)
        omega
      · exact h3 z hz
    · rw [if_neg (by simpa using h)]
      obtain ⟨m, h1, h2, h3⟩ := ih x
      refine ⟨m, h1, ?_, fun z hz => ?_⟩
      · rcases List.mem_cons.mp h2 with rfl | h2
        · simp
        · exact List.mem_cons_of_mem _ (List.mem_cons_of_mem _ h2)
      · rcases List.mem_cons.mp hz with rfl | hz
        · exact h3 _ (by simp)
        · rcases List.mem_cons.mp hz with rfl | hz
          · have := h3 x (by simp)
            omega
          · exact h3 z (List.mem_cons_of_mem _ hz)
theorem alike_ints (ns : List Int) : PySem.W.AlikeAll (ns.map .int) := by
  refine ⟨fun x hx y hy => ?_, fun x hx => ?_⟩
  · obtain ⟨a, _, rfl⟩ := List.mem_map.mp hx
    obtain ⟨b, _, rfl⟩ := List.mem_map.mp hy
    simp [PySem.W.alike]
  · obtain ⟨a, _, rfl⟩ := List.mem_map.mp hx
    exact fun z => nomatch z
theorem depth_ints : ∀ ns : List Int, PyData.depthAll (ns.map .int) = 0
  | [] => by simp [PyData.depthAll]
  | n :: ns => by
    rw [List.map_cons]
    simp [PyData.depthAll, PyData.depth, depth_ints ns]
theorem dqL_ints {K : PySem.W.Frag} {H : Hp} (ns : List Int) : DqL K H (ns.map V.int) (ns.map PyData.int) := DqL.of_ints ns
theorem int_of_reads {h : Heap} {v : Value} {m : Int} {bs : List Addr} (r : Reads h v (.int m) bs) : ∃ t, v = .int m t := by
  cases r with
  | int _ t => exact ⟨t, rfl⟩
def rMinA (K : PySem.W.Frag) : List V → Hp → L2.VK → Prop := fun vs H Q => ∃ (a : Addr) (ns : List Int), vs = [V.ref a] ∧ (SqL K H a (ns.map V.int) ∨ SqT K H a (ns.map V.int)) ∧ 0 < ns.length ∧ ∀ m, m ∈ ns → (∀ y, y ∈ ns → m ≤ y) → Q (.int m) H
def rMaxA (K : PySem.W.Frag) : List V → Hp → L2.VK → Prop := fun vs H Q => ∃ (a : Addr) (ns : List Int), vs = [V.ref a] ∧ (SqL K H a (ns.map V.int) ∨ SqT K H a (ns.map V.int)) ∧ 0 < ns.length ∧ ∀ m, m ∈ ns → (∀ y, y ∈ ns → y ≤ m) → Q (.int m) H
theorem cr_minA {X : Cx} (hc : X.calm = true) (hu : X.A.units + 64 < cLine) : CallR X (.builtin "min") (rMinA X.K) := by
  intro pins s σ H vs us Q I r h
  obtain ⟨a, ns, rfl, hs | hs, hne, q⟩ := h
  · exact cr_min hc pins s σ H _ us Q I r ⟨a, ns, rfl, hs, hne, q⟩
  · obtain ⟨its, rv, ht, _⟩ := I.tuple hs
    rw [Vals.ref1 r]
    cases ns with
    | nil => exact absurd hne (by simp)
    | cons n ns =>
      obtain ⟨as, hr⟩ := Dp.readsAll I _ _ its (dqL_ints (n :: ns)).dp rv
      rw [List.map_cons] at hr
      refine PySem.W.min_tuple_data (I.ok.hd hc) (show s.heap.IsTuple a its.toArray from ht) (by simpa using hr) (alike_ints (n :: ns)) ?_ fun i v h' tk bs _ hr' hk => ?_
      · have e := depth_ints (n :: ns)
        rw [List.map_cons] at e
        rw [e]
        omega
      · obtain ⟨m, e, hm, hl⟩ := minI n ns
        rw [e] at hr'
        obtain ⟨t, rfl⟩ := int_of_reads hr'
        exact ⟨.int m, H, I.kept hk, ⟨t, rfl⟩, q m hm hl⟩
theorem cr_maxA {X : Cx} (hc : X.calm = true) (hu : X.A.units + 64 < cLine) : CallR X (.builtin "max") (rMaxA X.K) := by
  intro pins s σ H vs us Q I r h
  obtain ⟨a, ns, rfl, hs | hs, hne, q⟩ := h
  · exact cr_max hc pins s σ H _ us Q I r ⟨a, ns, rfl, hs, hne, q⟩
  · obtain ⟨its, rv, ht, _⟩ := I.tuple hs
    rw [Vals.ref1 r]
    cases ns with
    | nil => exact absurd hne (by simp)
    | cons n ns =>
      obtain ⟨as, hr⟩ := Dp.readsAll I _ _ its (dqL_ints (n :: ns)).dp rv
      rw [List.map_cons] at hr
      refine PySem.W.max_tuple_data (I.ok.hd hc) (show s.heap.IsTuple a its.toArray from ht) (by simpa using hr) (alike_ints (n :: ns)) ?_ fun i v h' tk bs _ hr' hk => ?_
      · have e := depth_ints (n :: ns)
        rw [List.map_cons] at e
        rw [e]
        omega
      · obtain ⟨m, e, hm, hl⟩ := maxI n ns
        rw [e] at hr'
        obtain ⟨t, rfl⟩ := int_of_reads hr'
        exact ⟨.int m, H, I.kept hk, ⟨t, rfl⟩, q m hm hl⟩
def minC : List Va → (Va → Prop) → Prop := fun vas Q => match vas with
  | [x] => match nseq x.rd with
    | some ns => 0 < ns.length ∧ ∀ m, m ∈ ns → (∀ y, y ∈ ns → m ≤ y) → Q (.fz (.int m))
    | none => False
  | _ => False
def maxC : List Va → (Va → Prop) → Prop := fun vas Q => match vas with
  | [x] => match nseq x.rd with
    | some ns => 0 < ns.length ∧ ∀ m, m ∈ ns → (∀ y, y ∈ ns → y ≤ m) → Q (.fz (.int m))
    | none => False
  | _ => False
theorem sc_min {K : PySem.W.Frag} {G : Gd K} : SndC G (rMinA K) minC := by
  intro Hs Hf H vs vas Qd Q g r q k
  unfold minC at q
  split at q
  · cases r with
    | cons r1 r2 =>
      cases r2
      split at q
      · rename_i ns hn
        obtain ⟨a, rfl, h⟩ := r1.nums g hn
        exact ⟨a, ns, rfl, h, q.1, fun m h1 h2 => k.flat g (q.2 m h1 h2) (.int _)⟩
      · exact q.elim
  · exact q.elim
theorem sc_max {K : PySem.W.Frag} {G : Gd K} : SndC G (rMaxA K) maxC := by
  intro Hs Hf H vs vas Qd Q g r q k
  unfold maxC at q
  split at q
  · cases r with
    | cons r1 r2 =>
      cases r2
      split at q
      · rename_i ns hn
        obtain ⟨a, rfl, h⟩ := r1.nums g hn
        exact ⟨a, ns, rfl, h, q.1, fun m h1 h2 => k.flat g (q.2 m h1 h2) (.int _)⟩
      · exact q.elim
  · exact q.elim
end TR

namespace TR
open PySem L2 PySem.Spec PyProof.Rows

/-! ### sorted -/
def dle (a b : PyData) : Bool := !PySem.W.dataLt b a
def dle2 (a b : V × PyData) : Bool := dle a.2 b.2
def rSortD (K : PySem.W.Frag) : List V → Hp → L2.VK → Prop := fun vs H Q => ∃ (a : Addr) (xs : List V) (ds : List PyData), vs = [V.ref a] ∧ SqL K H a xs ∧ DpAll K H xs ds ∧ PySem.W.AllAlike ds ∧ PySem.W.Sortable ds ∧ (∀ d ∈ ds, d.depth ≤ 40) ∧ ds.length ≤ sizeLine ∧
  ∀ p, H p = none → Q (.ref p) (upd H p (.lst (((xs.zip ds).mergeSort dle2).map Prod.fst)))
theorem dpAll_len {K : PySem.W.Frag} {H : Hp} : ∀ {vs : List V} {ds : List PyData}, DpAll K H vs ds → vs.length = ds.length
  | _, _, .nil => rfl
  | _, _, .cons _ r => congrArg (· + 1) (dpAll_len r)
theorem each_vals : ∀ {xs : List V} {its : List Value} {ds : List PyData}, Vals xs its → xs.length = ds.length → PySem.W.EachIs (fun v (b : V × PyData) => RelV b.1 v) its (xs.zip ds)
  | _, _, [], .nil, _ => .nil
  | _, _, _ :: _, .cons r t, h => .cons r (each_vals t (by simpa using h))
theorem each_reads {X : Cx} {pins : List (Addr × Obj)} {s : Shared} {σ : L2.St} {H : Hp} (I : Inv X pins σ H s) : ∀ {xs : List V} {its : List Value} {ds : List PyData}, Vals xs its → DpAll X.K H xs ds → PySem.W.EachIs (fun v (b : V × PyData) => ∃ as, Reads s.heap v b.2 as) its (xs.zip ds)
  | _, _, _, .nil, .nil => .nil
  | _, _, _, .cons r t, .cons d q => .cons (Dp.reads I _ _ _ d r) (each_reads I t q)
theorem vals_each : ∀ {its : List Value} {bs : List (V × PyData)}, PySem.W.EachIs (fun v (b : V × PyData) => RelV b.1 v) its bs → Vals (bs.map Prod.fst) its
  | _, _, .nil => .nil
  | _, _, .cons r t => .cons r (vals_each t)
theorem cr_sortedD {X : Cx} (hu : X.A.units + 64 < cLine) : CallR X (.builtin "sorted") (rSortD X.K) := by
  intro pins s σ H vs us Q I r h
  obtain ⟨a, xs, ds, rfl, hs, hd, h1, h2, h3, h4, q⟩ := h
  obtain ⟨its, rv, hl, _⟩ := I.list hs
  rw [Vals.ref1 r]
  have hlen := dpAll_len hd
  have e2 : (xs.zip ds).map Prod.snd = ds := by rw [List.map_snd_zip (by omega)]
  refine PySem.W.sorted_data (enc := Prod.snd) (bs := xs.zip ds) (R := fun v (b : V × PyData) => RelV b.1 v) hl.isList (each_vals rv hlen) (each_reads I rv hd) (by rw [e2]; exact h1) (by rw [e2]; exact h2) (by rw [List.length_zip]; omega) (fun b hb => ?_) fun out ho he => ?_
  · have := h3 b.2 (by rw [← e2]; exact List.mem_map_of_mem hb)
    omega
  · obtain ⟨ep, he'⟩ := PyProof.Rows.sortedAll_at s.heap its out.toArray
    have hv : Vals (((xs.zip ds).mergeSort dle2).map Prod.fst) out := vals_each he
    have hlo : (((xs.zip ds).mergeSort dle2).map Prod.fst).length ≤ sizeLine := by
      rw [List.length_map, List.length_mergeSort, List.length_zip]
      omega
    refine ⟨.ref _, upd H (s.heap.objs.size + 1) (.lst (((xs.zip ds).mergeSort dle2).map Prod.fst)), I.laid (t' := s.toks) (fun _ _ => PyProof.Rows.sortedAll_old) (Nat.le_succ _) ⟨hlo, out, ep, hv, he'⟩, rfl, q _ (I.hok.fresh (Nat.le_succ _))⟩
theorem dqL_pairs {K : PySem.W.Frag} {H : Hp} : ∀ {bs : List (V × PyData)}, (∀ b ∈ bs, Dq K H b.1 b.2) → DqL K H (bs.map Prod.fst) (bs.map Prod.snd)
  | [], _ => .nil
  | b :: bs, h => .cons (h b (by simp)) (dqL_pairs fun c hc => h c (List.mem_cons_of_mem _ hc))
theorem dq_zip {K : PySem.W.Frag} {H : Hp} : ∀ {vs : List V} {ds : List PyData}, DqL K H vs ds → ∀ b ∈ vs.zip ds, Dq K H b.1 b.2
  | _, _, .nil, b, hb => by simp at hb
  | _, _, .cons d r, b, hb => by
    rw [List.zip_cons_cons] at hb
    rcases List.mem_cons.mp hb with rfl | hb
    · exact d
    · exact dq_zip r b hb
def sortC : List Va → (Va → Prop) → Prop := fun vas Q => match vas with
  | [x] => match x.rd with
    | .list ds => (PySem.W.AllAlike ds ∧ PySem.W.Sortable ds ∧ (∀ d ∈ ds, d.depth ≤ 40) ∧ ds.length ≤ sizeLine) ∧ Q (.nw (ds.mergeSort dle))
    | _ => False
  | _ => False
theorem sc_sorted {K : PySem.W.Frag} {G : Gd K} : SndC G (rSortD K) sortC := by
  intro Hs Hf H vs vas Qd Q g r q k
  unfold sortC at q
  split at q
  · cases r with
    | cons r1 r2 =>
      cases r2
      split at q
      · rename_i ds hd
        obtain ⟨a, xs, rfl, h1, h2⟩ := r1.lst g hd
        obtain ⟨⟨q1, q2, q3, q4⟩, q5⟩ := q
        refine ⟨a, xs, ds, rfl, SqL.of h1, (h2.mono g.sub).dp, q1, q2, q3, q4, fun p hp => k.lst g q5 ?_ hp⟩
        have e : ((xs.zip ds).mergeSort dle2).map Prod.snd = ds.mergeSort dle := by
          have := PySem.W.sort_maps (r := dle2) (s := dle) Prod.snd (l := xs.zip ds) (fun _ _ _ _ => rfl)
          rw [this, List.map_snd_zip (by rw [h2.length]; exact Nat.le_refl _)]
        rw [← e]
        exact dqL_pairs fun b hb => dq_zip h2 b ((List.mergeSort_perm (xs.zip ds) dle2).mem_iff.mp hb)
      · exact q.elim
  · exact q.elim

/-! ### list(range(..)), tuple(range(..)) -/
def SndRg {K : PySem.W.Frag} (G : Gd K) (te : L2.St → Hp → (Int → Int → Hp → Prop) → Prop) (t : List Sl → (Int → Int → Prop) → Prop) : Prop :=
  ∀ (Hf0 H0 : Hp) (α : Nat → Addr) (σ : L2.St) (ρ : List Sl) (Hf H : Hp) (Qd : Int → Int → Prop) (Q : Int → Int → Hp → Prop), Rel G Hf0 H0 α σ ρ Hf H → t ρ Qd →
    (∀ a b Hf' H', Qd a b → Good G Hf' H' → Ext G Hf H Hf' H' → Q a b H') → te σ H Q
structure VRg (X : Cx) {K : PySem.W.Frag} (G : Gd K) (e : Expr) (te : L2.St → Hp → (Int → Int → Hp → Prop) → Prop) (t : List Sl → (Int → Int → Prop) → Prop) : Prop where
  pe : PRg X e te
  sn : SndRg G te t
def rg1V (s : VTE) : List Sl → (Int → Int → Prop) → Prop := fun ρ Q => s ρ fun x => match x.rd with
  | .int n => Q 0 n
  | _ => False
def rg2V (s t : VTE) : List Sl → (Int → Int → Prop) → Prop := fun ρ Q => s ρ fun x => t ρ fun y => match x.rd, y.rd with
  | .int i, .int j => Q i j
  | _, _ => False
def lstRgV (t : List Sl → (Int → Int → Prop) → Prop) : VTE := fun ρ Q => t ρ fun a b => RgOk a b ∧ Q (.nw (rgD a (b - a).toNat))
def tupRgV (t : List Sl → (Int → Int → Prop) → Prop) : VTE := fun ρ Q => t ρ fun a b => RgOk a b ∧ Q (.fz (.tuple (rgD a (b - a).toNat)))
theorem dqL_rg {K : PySem.W.Frag} {H : Hp} (a b : Int) : DqL K H (rgV a b) (rgD a (b - a).toNat) := by
  have e1 : rgV a b = ((List.range (b - a).toNat).map fun (i : Nat) => a + i).map V.int := by
    unfold rgV
    rw [List.map_map]
    rfl
  have e2 : rgD a (b - a).toNat = ((List.range (b - a).toNat).map fun (i : Nat) => a + i).map PyData.int := by
    unfold rgD
    rw [List.map_map]
    rfl
  rw [e1, e2]
  exact DqL.of_ints _
section
variable {X : Cx} {K : PySem.W.Frag} {G : Gd K} {a b e : Expr} {ta tb : TE} {s t : VTE} {p pos : Pos} {te : L2.St → Hp → (Int → Int → Hp → Prop) → Prop} {tr : List Sl → (Int → Int → Prop) → Prop}
theorem vr_1 (hm : X.mg "range" = none) (ha : VE X G a ta s) (hg : Gl X "range" := by rfl) (na : starEach [a] X.env = (false, eval a X.env) :: starEach [] X.env := by rfl) : VRg X G (.Call (.Name "range" p) [a] [] pos) (tRg1 ta) (rg1V s) := by
  refine ⟨prg_1 hg hm ha.pe na, fun Hf0 H0 α σ ρ Hf H Qd Q R q k => ?_⟩
  refine ha.sn Hf0 H0 α σ ρ Hf H _ _ R q fun va v Hf1 H1 q1 g1 e1 r1 => ?_
  split at q1
  · rename_i n hn
    exact ⟨n, r1.int hn, k 0 n Hf1 H1 q1 g1 e1⟩
  · exact q1.elim
theorem vr_2 (hm : X.mg "range" = none) (ha : VE X G a ta s) (hb : VE X G b tb t) (hg : Gl X "range" := by rfl) (na : starEach [a, b] X.env = (false, eval a X.env) :: starEach [b] X.env := by rfl) (nb : starEach [b] X.env = (false, eval b X.env) :: starEach [] X.env := by rfl) (hp : (backTo pos (starEach [b] X.env)).any (·.1) = false := by rfl) : VRg X G (.Call (.Name "range" p) [a, b] [] pos) (tRg2 ta tb) (rg2V s t) := by
  refine ⟨prg_2 hg hm ha.pe hb.pe na nb hp, fun Hf0 H0 α σ ρ Hf H Qd Q R q k => ?_⟩
  refine ha.sn Hf0 H0 α σ ρ Hf H _ _ R q fun va v Hf1 H1 q1 g1 e1 r1 => ?_
  refine hb.sn Hf0 H0 α σ ρ Hf1 H1 _ _ (R.step g1 e1) q1 fun vb w Hf2 H2 q2 g2 e2 r2 => ?_
  split at q2
  · rename_i i j hi hj
    exact ⟨i, j, r1.int hi, r2.int hj, k i j Hf2 H2 q2 g2 (Ext.trans R.good g2 e1 e2)⟩
  · exact q2.elim
theorem ve_listRg (hm : X.mg "list" = none) (he : VRg X G e te tr) (hc : X.calm = true := by rfl) (hg : Gl X "list" := by rfl) (na : starEach [e] X.env = (false, eval e X.env) :: starEach [] X.env := by rfl) : VE X G (.Call (.Name "list" p) [e] [] pos) (tLstRg te) (lstRgV tr) := by
  refine ⟨pe_listRg hc hg hm he.pe na, fun Hf0 H0 α σ ρ Hf H Qd Q R q k => ?_⟩
  exact he.sn Hf0 H0 α σ ρ Hf H _ _ R q fun a b Hf1 H1 q1 g1 e1 => ⟨q1.1, fun p hp => (Post.at R.good e1 k).lst g1 q1.2 (dqL_rg a b) hp⟩
theorem ve_tupRg (hm : X.mg "tuple" = none) (he : VRg X G e te tr) (hc : X.calm = true := by rfl) (hg : Gl X "tuple" := by rfl) (na : starEach [e] X.env = (false, eval e X.env) :: starEach [] X.env := by rfl) : VE X G (.Call (.Name "tuple" p) [e] [] pos) (tTupRg te) (tupRgV tr) := by
  refine ⟨pe_tupRg hc hg hm he.pe na, fun Hf0 H0 α σ ρ Hf H Qd Q R q k => ?_⟩
  exact he.sn Hf0 H0 α σ ρ Hf H _ _ R q fun a b Hf1 H1 q1 g1 e1 => ⟨q1.1, fun p hp => (Post.at R.good e1 k).tup g1 q1.2 (dqL_rg a b) hp⟩
end

/-! ### and, or, chains as tests -/
structure VW (X : Cx) {K : PySem.W.Frag} (G : Gd K) (e : Expr) (tt : TT) (t : VTT) : Prop where
  pe : PW X e tt
  sn : SndT G tt t
section
variable {X : Cx} {K : PySem.W.Frag} {G : Gd K} {a b c : Expr} {rest : List Expr} {ta tb tc : TE} {s t u : VTE} {pos : Pos} {tA tB : TT} {p q : VTT} {r r' : R2} {o o' : CmpOp} {op op' : Va → Va → (Va → Prop) → Prop}
theorem vw_and1 (h : VT X G a tA p) : VW X G (.BoolOp .And [a] pos) tA p := ⟨pw_and1 h.pe, h.sn⟩
theorem vw_or1 (h : VT X G a tA p) : VW X G (.BoolOp .Or [a] pos) tA p := ⟨pw_or1 h.pe, h.sn⟩
theorem vw_and (h : VT X G a tA p) (hb : VW X G (.BoolOp .And (b :: rest) pos) tB q) : VW X G (.BoolOp .And (a :: b :: rest) pos) (tAnd tA tB) (andT p q) := ⟨pw_and h.pe hb.pe, snd_and h.sn hb.sn⟩
theorem vw_or (h : VT X G a tA p) (hb : VW X G (.BoolOp .Or (b :: rest) pos) tB q) : VW X G (.BoolOp .Or (a :: b :: rest) pos) (tOr tA tB) (orT p q) := ⟨pw_or h.pe hb.pe, snd_or h.sn hb.sn⟩
theorem vt_w {e : Expr} (h : VW X G e tA p) : VT X G e tA p := ⟨PW.pt h.pe, h.sn⟩
def chainV (op op' : Va → Va → (Va → Prop) → Prop) (s t u : VTE) : VTE := fun ρ Q => s ρ fun x => t ρ fun y => op x y fun z => match z with
  | .fz (.bool k) => if k = true then u ρ fun w => op' y w Q else Q (.fz (.bool false))
  | _ => False
theorem snd_chain (ho : SndR2 G r op) (ho' : SndR2 G r' op') (ha : SndE G ta s) (hb : SndE G tb t) (hc : SndE G tc u) : SndE G (tChain r r' ta tb tc) (chainV op op' s t u) := by
  intro Hf0 H0 α σ ρ Hf H Qd Q R q k
  refine ha Hf0 H0 α σ ρ Hf H _ _ R q fun va v Hf1 H1 q1 g1 e1 r1 => ?_
  refine hb Hf0 H0 α σ ρ Hf1 H1 _ _ (R.step g1 e1) q1 fun vb w Hf2 H2 q2 g2 e2 r2 => ?_
  have e12 := Ext.trans R.good g2 e1 e2
  refine ho H Hf2 H2 v w va vb _ _ g2 (r1.step e2) (RV.back e1 r2) q2 fun vz z Hf3 H3 q3 g3 e3 r3 => ?_
  have e13 := Ext.trans R.good g3 e12 e3
  cases vz with
  | fz d =>
    cases d with
    | bool kk =>
      cases r3
      refine ⟨kk, rfl, ?_⟩
      cases kk with
      | false =>
        have q3 : Qd (Va.fz (PyData.bool false)) := q3
        rw [if_neg Bool.false_ne_true]
        exact (Post.at R.good e13 k).flat g3 q3 (.bl false)
      | true =>
        have q3 : u ρ fun w => op' vb w Qd := q3
        rw [if_pos rfl]
        refine hc Hf0 H0 α σ ρ Hf3 H3 _ _ (R.step g3 e13) q3 fun vc w2 Hf4 H4 q4 g4 e4 r4 => ?_
        exact ho' H Hf4 H4 w w2 vb vc Qd Q g4 (((RV.back e1 r2).step e3).step e4) (RV.back e13 r4) q4 (Post.at R.good (Ext.trans R.good g4 e13 e4) k)
    | _ => exact q3.elim
  | _ => exact q3.elim
theorem ve_chain (h1 : OpR X (compareOp o) r) (h2 : OpR X (compareOp o') r') (ho : SndR2 G r op) (ho' : SndR2 G r' op') (ha : VE X G a ta s) (hb : VE X G b tb t) (hc : VE X G c tc u) (hm : lastMarks [o, o'] [b, c] = false := by with_unfolding_all rfl) : VE X G (.Compare a [o, o'] [b, c] pos) (tChain r r' ta tb tc) (chainV op op' s t u) :=
  ⟨pe_chain h1 h2 ha.pe hb.pe hc.pe hm, snd_chain ho ho' ha.sn hb.sn hc.sn⟩
theorem vt_chain (h1 : OpR X (compareOp o) r) (h2 : OpR X (compareOp o') r') (ho : SndR2 G r op) (ho' : SndR2 G r' op') (ha : VE X G a ta s) (hb : VE X G b tb t) (hc : VE X G c tc u) (hm : lastMarks [o, o'] [b, c] = false := by with_unfolding_all rfl) : VT X G (.Compare a [o, o'] [b, c] pos) (tTest (tChain r r' ta tb tc)) (bV (chainV op op' s t u)) :=
  ⟨pt_chain h1 h2 ha.pe hb.pe hc.pe hm, snd_tTest (snd_chain ho ho' ha.sn hb.sn hc.sn)⟩
end

/-! ### zip in comprehensions and fors -/
def zipD : List PyData → List PyData → List PyData
  | a :: as, b :: bs => .tuple [a, b] :: zipD as bs
  | _, _ => []
theorem zipD_len : ∀ as bs : List PyData, (zipD as bs).length = min as.length bs.length
  | [], _ => by simp [zipD]
  | _ :: _, [] => by simp [zipD]
  | a :: as, b :: bs => by simp [zipD, zipD_len as bs]
theorem zipD_get : ∀ {as bs : List PyData} {i : Nat} {d : PyData}, (zipD as bs)[i]? = some d → ∃ a b, as[i]? = some a ∧ bs[i]? = some b ∧ d = .tuple [a, b]
  | [], _, _, _, h => by simp [zipD] at h
  | _ :: _, [], _, _, h => by simp [zipD] at h
  | a :: as, b :: bs, 0, d, h => by
    cases h
    exact ⟨a, b, rfl, rfl, rfl⟩
  | a :: as, b :: bs, i + 1, d, h => zipD_get (as := as) (bs := bs) (i := i) (d := d) h
section
variable {K : PySem.W.Frag} {G : Gd K} {Hf : Hp} {a b : Addr} {xs ys : List V} {ds es : List PyData}
theorem pair_yld {Hg Hh : Hp} {T : Addr} {x y : V} {d e : PyData} (g : Good G Hg Hh) (nT : Hh T = none) (h1 : Dq K Hg x d) (h2 : Dq K Hg y e) : ∃ Hf', Good G Hf' (upd Hh T (.tup [x, y])) ∧ Ext G Hg Hh Hf' (upd Hh T (.tup [x, y])) ∧ Dq K Hf' (.ref T) (.tuple [d, e]) :=
  ⟨_, g.lay nT, Ext.lay g nT, .tup (.inl (.inl upd_same)) (.cons (h1.mono (same_upd (g.fresh nT))) (.cons (h2.mono (same_upd (g.fresh nT))) .nil))⟩
theorem src_zipL (hd : DqL K Hf xs ds) (he : DqL K Hf ys es) : Src G (fun Hg Hh => Same Hf Hg ∧ Hh a = some (.lst xs) ∧ Hh b = some (.lst ys)) (Itz K a b) (zipD ds es) := by
  have l1 := hd.length
  have l2 := he.length
  refine ⟨fun Hg Hh _ p => ⟨xs, ys, SqL.of p.2.1, SqL.of p.2.2, ?_⟩, fun i Hg Hh _ p hi => ?_, fun i d Hg Hh x H' g p hi y => ?_⟩
  · rw [zipD_len]; omega
  · rw [zipD_len] at hi
    exact ⟨xs, ys, xs[i]'(by omega), ys[i]'(by omega), SqL.of p.2.1, SqL.of p.2.2, by simp, by simp⟩
  · obtain ⟨d1, d2, z1, z2, rfl⟩ := zipD_get hi
    obtain ⟨T, x1, x2, rfl, nT, rfl, y1, y2⟩ := y
    obtain ⟨v1, w1, w2⟩ := hd.get z1
    obtain ⟨v2, w3, w4⟩ := he.get z2
    have y1 := y1 xs (SqL.of p.2.1)
    have y2 := y2 ys (SqL.of p.2.2)
    rw [w1] at y1
    rw [w3] at y2
    cases y1
    cases y2
    exact pair_yld g nT (w2.mono p.1) (w4.mono p.1)
theorem src_zipT (hd : DqL K Hf xs ds) (he : DqL K Hf ys es) : Src G (fun Hg Hh => Same Hf Hg ∧ SqT K Hh a xs ∧ SqT K Hh b ys) (RZ.ItzT K a b) (zipD ds es) := by
  have l1 := hd.length
  have l2 := he.length
  refine ⟨fun Hg Hh _ p => ⟨xs, ys, p.2.1, p.2.2, ?_⟩, fun i Hg Hh _ p hi => ?_, fun i d Hg Hh x H' g p hi y => ?_⟩
  · rw [zipD_len]; omega
  · rw [zipD_len] at hi
    exact ⟨xs, ys, xs[i]'(by omega), ys[i]'(by omega), p.2.1, p.2.2, by simp, by simp⟩
  · obtain ⟨d1, d2, z1, z2, rfl⟩ := zipD_get hi
    obtain ⟨T, x1, x2, rfl, nT, rfl, y1, y2⟩ := y
    obtain ⟨v1, w1, w2⟩ := hd.get z1
    obtain ⟨v2, w3, w4⟩ := he.get z2
    have y1 := y1 xs p.2.1
    have y2 := y2 ys p.2.2
    rw [w1] at y1
    rw [w3] at y2
    cases y1
    cases y2
    exact pair_yld g nT (w2.mono p.1) (w4.mono p.1)
end
/-- both frozen: two lists or two tuples -/
def zipI (s t : VTE) : VTI := fun ρ Q => s ρ fun x => x.frz fun d => t ρ fun y => y.frz fun e => match d, e with
  | .list ds, .list es => Q (zipD ds es)
  | .tuple ds, .tuple es => Q (zipD ds es)
  | _, _ => False
section
variable {X : Cx} {K : PySem.W.Frag} {G : Gd K} {a b : Expr} {ta tb : TE} {s t : VTE} {p pos tpos : Pos} {elts : List Expr} {kk : Nat}
theorem vi_zip (hm : X.mg "zip" = none) (ha : VE X G a ta s) (hb : VE X G b tb t) (hg : Gl X "zip" := by rfl) (hK : X.K = K := by rfl) (hs : starEach [a, b] X.env = (false, eval a X.env) :: starEach [b] X.env := by rfl) (hs2 : starEach [b] X.env = (false, eval b X.env) :: starEach [] X.env := by rfl) (hpl : (backTo pos (starEach [b] X.env)).any (·.1) = false := by rfl) :
    VI X G (.Tuple elts kk tpos) (.Call (.Name "zip" p) [a, b] [] pos) (RZ.iZipA K (tCons ta (tCons tb tNil))) (zipI s t) := by
  refine ⟨hK ▸ RZ.pi_zipA hg hm (pa_cons ha.pe (pa_cons hb.pe pa_nil hs2) hs) hs hpl, fun Hf0 H0 α σ ρ Hf H Qd R Rl q k => ?_⟩
  refine (vf_of ha).sn Hf0 H0 α σ ρ Hf H _ _ Rl q fun d v Hf1 H1 q1 g1 e1 r1 => ?_
  refine (vf_of hb).sn Hf0 H0 α σ ρ Hf1 H1 _ _ (Rl.step g1 e1) q1 fun e w Hf2 H2 q2 g2 e2 r2 => ?_
  have e12 := Ext.trans Rl.good g2 e1 e2
  have r1 := r1.mono e2.fz
  split at q2
  · rename_i ds es
    cases r1 with
    | lst h1 h2 =>
      cases r2 with
      | lst h3 h4 =>
        refine ⟨_, _, _, _, rfl, .inl ⟨SqL.of (g2.sub _ _ h1), SqL.of (g2.sub _ _ h3), k _ _ Hf2 H2 q2 g2 e12 ?_⟩⟩
        exact ⟨fun Hg Hh gg p => (src_zipL h2 h4).stop Hg Hh gg ⟨p, gg.sub _ _ (p _ _ h1), gg.sub _ _ (p _ _ h3)⟩, fun i Hg Hh gg p => (src_zipL h2 h4).go i Hg Hh gg ⟨p, gg.sub _ _ (p _ _ h1), gg.sub _ _ (p _ _ h3)⟩, fun i d Hg Hh x H' gg p => (src_zipL h2 h4).yld i d Hg Hh x H' gg ⟨p, gg.sub _ _ (p _ _ h1), gg.sub _ _ (p _ _ h3)⟩⟩
  · rename_i ds es
    cases r1 with
    | tup h1 h2 =>
      cases r2 with
      | tup h3 h4 =>
        refine ⟨_, _, _, _, rfl, .inr ⟨SqT.mono g2.sub h1, SqT.mono g2.sub h3, k _ _ Hf2 H2 q2 g2 e12 ?_⟩⟩
        exact ⟨fun Hg Hh gg p => (src_zipT h2 h4).stop Hg Hh gg ⟨p, SqT.mono (p.trans gg.sub) h1, SqT.mono (p.trans gg.sub) h3⟩, fun i Hg Hh gg p => (src_zipT h2 h4).go i Hg Hh gg ⟨p, SqT.mono (p.trans gg.sub) h1, SqT.mono (p.trans gg.sub) h3⟩, fun i d Hg Hh x H' gg p => (src_zipT h2 h4).yld i d Hg Hh x H' gg ⟨p, SqT.mono (p.trans gg.sub) h1, SqT.mono (p.trans gg.sub) h3⟩⟩
  · exact q2.elim
end
end TR

namespace TR
open PySem L2 PySem.Spec PyProof.Rows
open AutoSeq1 (wpAny_loadPart')

/-! ### enumerate of a list or a tuple -/
theorem enum_new1 {v : Value} {o : Obj} {Hh : Heap → Prop} (B : Begins v o Hh) :
    Meets (Builtin.«enumerate.__new__» ⟨[.type "enumerate", v], []⟩) (fun _ R s => Hh s.heap ∧
      R (.ok (.ret (.ref (s.heap.push o).objs.size))) { s with heap := (s.heap.push o).push { cls := .type "enumerate", data := .fields #[.none, .bool false, .ref s.heap.objs.size, rawInt 0, .none, .none] } }) :=
  .of_wp fun P w A R s hh => by
    obtain ⟨hp, gn, dr, tk, os⟩ := s
    obtain ⟨h1, hR⟩ := hh
    have hsub := sub_enumerate
    have it1 : ∀ {A1 : Around} {E : Value → Shared → Prop} {Q : Value → Shared → Prop}, Q (.ref hp.objs.size) ⟨hp.push o, gn, dr, tk, os⟩ → wpAny (model P w) A1 (pyIter v) Q E ⟨hp, gn, dr, tk, os⟩ :=
      fun q => B.iter P w _ _ ⟨hp, gn, dr, tk, os⟩ _ h1 q
    wp_walk using it1
    refine wpAny_stack_any fun stk => wpAny_pure ?_
    split
    · rename_i c _ _ _ _ _
      cases (c == Value.type "enumerate") <;> (wp_walk using it1; exact ⟨_, rfl, hR⟩)
    · wp_walk using it1
      exact ⟨_, rfl, hR⟩
theorem call_enum1 {prog : Program} {w : World} {A : Around} {E : Value → Shared → Prop} {s : Shared} {v : Value} {o : Obj} {Hh : Heap → Prop} {Q : Value → Shared → Prop} (B : Begins v o Hh) (h1 : Hh s.heap)
    (k : ∀ h', IsEnum h' (s.heap.objs.size + 1) s.heap.objs.size 0 .none → h'.get? s.heap.objs.size = some o → (∀ b u, s.heap.get? b = some u → h'.get? b = some u) → Q (.ref (s.heap.objs.size + 1)) { s with heap := h' }) :
    wpAny (model prog w) A (call (.type "enumerate") [v]) Q E s := by
  have sz : (s.heap.push o).objs.size = s.heap.objs.size + 1 := Heap.size_push ..
  refine callType_new F.called_enumerate (by decide) (F.typeCall_enumerate_1 _) (F.newCall_enumerate_1 _) (fun obj => F.args_object_init_2 obj _) F.entry_enumerate_new (enum_new1 B) ⟨h1, ?_⟩
  have at_e := Heap.get?_push_size (s.heap.push o) (o := { cls := .type "enumerate", data := .fields #[.none, .bool false, .ref s.heap.objs.size, rawInt 0, .none, .none] }) rfl
  rw [sz] at at_e
  show _ ∧ _
  rw [sz]
  exact ⟨⟨_, at_e, rfl⟩, k _ at_e (Heap.get?_push_of_some _ (Heap.get?_push_size _ B.free)) fun b u x => Heap.get?_push_of_some _ (Heap.get?_push_of_some _ x)⟩
/-- the tuple at a, each item in a new pair with its place -/
def IteT (K : PySem.W.Frag) (a : Addr) : It where
  go := fun i H => ∃ (xs : List V) (x : V), SqT K H a xs ∧ xs[i]? = some x
  yld := fun i H v H' => ∃ T x, v = .ref T ∧ H T = none ∧ H' = upd H T (.tup [.int (i : Nat), x]) ∧ ∀ xs, SqT K H a xs → xs[i]? = some x
  stop := fun i H => ∃ xs : List V, SqT K H a xs ∧ xs.length = i
theorem turn_enumT {P : Program} {w : World} {K : PySem.W.Frag} {elts : List Expr} {kk : Nat} {tpos : Pos} (a e it : Addr) (hne : e ≠ it) :
    Turn P w K (.Tuple elts kk tpos) (IteT K a) [e, it] e (fun i h => (∃ old, IsEnum h e it ((i : Nat) : Int) old) ∧ h.IsTupleIter it a i ∧ a ≠ it ∧ a ≠ e) where
  mem := by simp
  obj := fun i h st b hb => by
    obtain ⟨⟨old, he⟩, ⟨o, ho, _, hd⟩, _⟩ := st
    rcases List.mem_cons.mp hb with z | z
    · subst z
      exact ⟨_, he, fun v q => nomatch q⟩
    · rw [List.mem_singleton.mp z]
      refine ⟨o, ho, fun v q => ?_⟩
      rw [hd] at q
      cases q
  keep := fun i h h' st k => by
    obtain ⟨⟨old, he⟩, hi, n1, n2⟩ := st
    exact ⟨⟨old, k e (by simp) _ he⟩, hi.at fun o q => k it (by simp) o q, n1, n2⟩
  item := by
    intro X hP hw hK hc i pins s σ H E I hf st hg
    subst hP hw hK
    obtain ⟨⟨old, he⟩, hit, n1, n2⟩ := st
    obtain ⟨xs, x, hq, hx⟩ := hg
    obtain ⟨its, rv, ht, _⟩ := I.tuple hq
    obtain ⟨u, hu, ru⟩ := Vals.get rv hx
    have hel : e < s.heap.objs.size := Heap.lt_size he
    have hil : it < s.heap.objs.size := by
      obtain ⟨_, q, _⟩ := hit
      exact Heap.lt_size q
    have D := Draws.tuple (prog := X.prog) (w := X.w) (A := X.A.in1) (I.ok.hd hc) it a n1 its.toArray
    have hlt : i < its.toArray.size := by
      rw [List.size_toArray]
      exact (List.getElem?_eq_some_iff.mp hu).1
    have nef : e ∉ [it, a] := fun z => by
      rcases List.mem_cons.mp z with q | q
      · exact hne q
      · exact n2 (List.mem_singleton.mp q).symm
    refine wpAny_pyNext_enum_itemD D he ⟨hit, ht⟩ hlt hne nef fun y h' tk hy ho st' hT hsz hk => ⟨_, rfl, ?_⟩
    have ey : y = u := by
      rw [List.getElem?_toArray, hu] at hy
      exact (Option.some.inj hy).symm
    subst ey
    refine wpAny_letOwnedTupleGo_enum (s := { s with heap := h', toks := tk + 1 }) ho fun h2 he2 sb => ?_
    have nse : s.heap.objs.size ≠ e := Nat.ne_of_gt hel
    have hT2 := (sb.2 _ nse).trans hT
    have new : ObjOk X.prog X.w (upd H s.heap.objs.size (.tup [.int (i : Nat), x])) h2 s.heap.objs.size (.tup [.int (i : Nat), x]) :=
      ⟨by show 2 ≤ sizeLine; decide, [.int i tk, y], .cons ⟨_, rfl⟩ (.cons ru .nil), ⟨_, hT2, rfl, _, rfl⟩⟩
    have I1 : Inv X pins σ (upd H s.heap.objs.size (.tup [.int (i : Nat), x])) { s with heap := h2, toks := tk + 1 } := by
      refine I.turnedNew (ch := [e, it]) (fun b ob hb q => ?_) hf (Nat.le_refl _) new
      have b1 : b ≠ e := fun z => hb (by simp [z])
      have b2 : b ≠ it := fun z => hb (by simp [z])
      exact (sb.2 b b1).trans (hk b ob b1 b2 q)
    refine ⟨.ref s.heap.objs.size, _, I1, rfl, ⟨_, x, rfl, I.hok.fresh (Nat.le_refl _), rfl, fun ys hy => ?_⟩, ⟨⟨y, ?_⟩, st'.1.at fun o q => (sb.2 it (Ne.symm hne)).trans q, n1, n2⟩, fun b hb => ?_⟩
    · rw [I.tuple_inj hy hq]
      exact hx
    · have e1 : ((i + 1 : Nat) : Int) = (i : Int) + 1 := Int.natCast_succ i
      rw [e1]
      exact he2
    · have hb' : b < s.heap.objs.size := by
        rcases List.mem_cons.mp hb with z | z
        · rw [z]; exact hel
        · rw [List.mem_singleton.mp z]; exact hil
      rw [upd_ne (Nat.ne_of_lt hb')]
      exact (hf b hb).1
  done := by
    intro X hP hw hK hc i pins s σ H E I hf st hg
    subst hP hw hK
    obtain ⟨⟨old, he⟩, hit, n1, n2⟩ := st
    obtain ⟨xs, hq, hx⟩ := hg
    obtain ⟨its, rv, ht, _⟩ := I.tuple hq
    obtain ⟨f0, f1, f2, f3, f4, f5⟩ := hf it (by simp)
    have hl := rv.length
    have D := Draws.tuple (prog := X.prog) (w := X.w) (A := X.A.in1) (I.ok.hd hc) it a n1 its.toArray
    have hn : its.toArray.size = i := by rw [List.size_toArray]; omega
    refine PySem.wpAny_pyNext_enum_endD D he ⟨by rw [hn]; exact hit, ht⟩ fun h' eb => ⟨rfl, ?_⟩
    exact I.turned (t' := s.toks) (fun b o hb q => eb b o hb q) f0 f1 f3 f4 f5
  self := fun A i s Q E st h => by
    obtain ⟨⟨_, he⟩, _⟩ := st
    exact wpAny_pyIter_enum he h
def iEnumA (K : PySem.W.Frag) (ta : TA) : TI := fun σ H R => ta σ H fun vs H1 => ∃ a xs, vs = [.ref a] ∧ ((SqL K H1 a xs ∧ R (Ite K a) H1) ∨ (SqT K H1 a xs ∧ R (IteT K a) H1))
theorem pi_enumA {X : Cx} {e : Expr} {ta : TA} {p pos tpos : Pos} {elts : List Expr} {kk : Nat} (hg : Gl X "enumerate") (hm : X.mg "enumerate" = none) (ha : PA X [e] ta) (hs : starEach [e] X.env = [(false, eval e X.env)] := by rfl) :
    PI X (.Tuple elts kk tpos) (.Call (.Name "enumerate" p) [e] [] pos) (iEnumA X.K ta) := by
  refine ⟨fun pins s σ H R I h => Call_ (ld_blt I hg hm boot_enumerate (PyProof.Rows.callWith_type1 (thn (ha.run pos pins s σ H _ I h) fun us s1 hv => ?_) hs rfl))⟩
  obtain ⟨vs, H1, I1, r1, a, xs, rfl, hq⟩ := hv
  rw [Vals.ref1 r1]
  have okf : ∀ b ∈ [s1.heap.objs.size + 1, s1.heap.objs.size], FpOk X pins H1 b := fun b hb => by
    have hle : s1.heap.objs.size ≤ b := by
      rcases List.mem_cons.mp hb with z | z
      · rw [z]; exact Nat.le_succ _
      · rw [List.mem_singleton.mp z]; exact Nat.le_refl _
    exact I1.fpOk hle (I1.hok.fresh hle)
  rcases hq with ⟨hq, q⟩ | ⟨hq, q⟩
  · obtain ⟨its, rv, pl, _⟩ := I1.list hq
    refine call_enum1 (begins_list a its.toArray) pl.isList fun h' he hit hk => wpAny_pyIter_enum he ?_
    exact ⟨_, _, _, _, H1, rfl, I1.kept (t' := s1.toks) hk, turn_enum a _ _, ⟨⟨.none, he⟩, ⟨_, hit, rfl, rfl⟩, Nat.succ_ne_self _⟩, okf, q⟩
  · obtain ⟨its, rv, pt, _⟩ := I1.tuple hq
    have hlt : a < s1.heap.objs.size := pt.lt
    refine call_enum1 (begins_tuple a its.toArray) pt fun h' he hit hk => wpAny_pyIter_enum he ?_
    exact ⟨_, _, _, _, H1, rfl, I1.kept (t' := s1.toks) hk, turn_enumT a _ _ (Nat.succ_ne_self _), ⟨⟨.none, he⟩, ⟨_, hit, rfl, rfl⟩, Nat.ne_of_lt hlt, Nat.ne_of_lt (Nat.lt_succ_of_lt hlt)⟩, okf, q⟩
def enumD (k : Nat) : List PyData → List PyData
  | [] => []
  | d :: ds => .tuple [.int (k : Nat), d] :: enumD (k + 1) ds
theorem enumD_len : ∀ (k : Nat) (ds : List PyData), (enumD k ds).length = ds.length
  | _, [] => rfl
  | k, _ :: ds => congrArg (· + 1) (enumD_len (k + 1) ds)
theorem enumD_get : ∀ {k : Nat} {ds : List PyData} {i : Nat} {d : PyData}, (enumD k ds)[i]? = some d → ∃ e, ds[i]? = some e ∧ d = .tuple [.int ((k + i : Nat)), e]
  | _, [], _, _, h => by simp [enumD] at h
  | k, e :: ds, 0, d, h => by
    cases h
    exact ⟨e, rfl, rfl⟩
  | k, e :: ds, i + 1, d, h => by
    obtain ⟨e', h1, h2⟩ := enumD_get (k := k + 1) (ds := ds) (i := i) (d := d) h
    refine ⟨e', h1, ?_⟩
    rw [h2, Nat.add_assoc, Nat.add_comm 1 i]
section
variable {K : PySem.W.Frag} {G : Gd K} {Hf : Hp} {a : Addr} {xs : List V} {ds : List PyData}
theorem src_enumL (hd : DqL K Hf xs ds) : Src G (fun Hg Hh => Same Hf Hg ∧ Hh a = some (.lst xs)) (Ite K a) (enumD 0 ds) := by
  have l1 := hd.length
  refine ⟨fun Hg Hh _ p => ⟨xs, SqL.of p.2, by rw [enumD_len]; omega⟩, fun i Hg Hh _ p hi => ?_, fun i d Hg Hh x H' g p hi y => ?_⟩
  · rw [enumD_len] at hi
    exact ⟨xs, xs[i]'(by omega), SqL.of p.2, by simp⟩
  · obtain ⟨e, z1, rfl⟩ := enumD_get hi
    obtain ⟨T, x1, rfl, nT, rfl, y1⟩ := y
    obtain ⟨v1, w1, w2⟩ := hd.get z1
    have y1 := y1 xs (SqL.of p.2)
    rw [w1] at y1
    cases y1
    rw [Nat.zero_add]
    exact pair_yld g nT (.int _) (w2.mono p.1)
theorem src_enumT (hd : DqL K Hf xs ds) : Src G (fun Hg Hh => Same Hf Hg ∧ SqT K Hh a xs) (IteT K a) (enumD 0 ds) := by
  have l1 := hd.length
  refine ⟨fun Hg Hh _ p => ⟨xs, p.2, by rw [enumD_len]; omega⟩, fun i Hg Hh _ p hi => ?_, fun i d Hg Hh x H' g p hi y => ?_⟩
  · rw [enumD_len] at hi
    exact ⟨xs, xs[i]'(by omega), p.2, by simp⟩
  · obtain ⟨e, z1, rfl⟩ := enumD_get hi
    obtain ⟨T, x1, rfl, nT, rfl, y1⟩ := y
    obtain ⟨v1, w1, w2⟩ := hd.get z1
    have y1 := y1 xs p.2
    rw [w1] at y1
    cases y1
    rw [Nat.zero_add]
    exact pair_yld g nT (.int _) (w2.mono p.1)
end
def enumI (s : VTE) : VTI := fun ρ Q => s ρ fun va => va.frz fun d => dseq d fun ds => Q (enumD 0 ds)
def enumIC (s : VTE) : VTI := fun ρ Q => s ρ fun va => dseq va.rd fun ds => Q (enumD 0 ds)
section
variable {X : Cx} {K : PySem.W.Frag} {G : Gd K} {e : Expr} {te : TE} {s : VTE} {p pos tpos : Pos} {elts : List Expr} {kk : Nat}
theorem vi_enum (hm : X.mg "enumerate" = none) (h : VE X G e te s) (hg : Gl X "enumerate" := by rfl) (hK : X.K = K := by rfl) (hs : starEach [e] X.env = [(false, eval e X.env)] := by rfl) (hs2 : starEach [e] X.env = (false, eval e X.env) :: starEach [] X.env := by rfl) :
    VI X G (.Tuple elts kk tpos) (.Call (.Name "enumerate" p) [e] [] pos) (iEnumA K (tCons te tNil)) (enumI s) := by
  refine ⟨hK ▸ pi_enumA hg hm (pa_cons h.pe pa_nil hs2) hs, fun Hf0 H0 α σ ρ Hf H Qd R Rl q k => ?_⟩
  refine (vf_of h).sn Hf0 H0 α σ ρ Hf H _ _ Rl q fun d v Hf' H' q g ex r => ?_
  rcases dseq_or q with ⟨ds, rfl, q⟩ | ⟨ds, rfl, q⟩
  · cases r with
    | lst h1 h2 => exact ⟨_, _, rfl, .inl ⟨SqL.of (g.sub _ _ h1), k _ _ Hf' H' q g ex ⟨fun Hg Hh gg p => (src_enumL h2).stop Hg Hh gg ⟨p, gg.sub _ _ (p _ _ h1)⟩, fun i Hg Hh gg p => (src_enumL h2).go i Hg Hh gg ⟨p, gg.sub _ _ (p _ _ h1)⟩, fun i d Hg Hh x H' gg p => (src_enumL h2).yld i d Hg Hh x H' gg ⟨p, gg.sub _ _ (p _ _ h1)⟩⟩⟩⟩
  · cases r with
    | tup h1 h2 => exact ⟨_, _, rfl, .inr ⟨SqT.mono g.sub h1, k _ _ Hf' H' q g ex ⟨fun Hg Hh gg p => (src_enumT h2).stop Hg Hh gg ⟨p, SqT.mono (p.trans gg.sub) h1⟩, fun i Hg Hh gg p => (src_enumT h2).go i Hg Hh gg ⟨p, SqT.mono (p.trans gg.sub) h1⟩, fun i d Hg Hh x H' gg p => (src_enumT h2).yld i d Hg Hh x H' gg ⟨p, SqT.mono (p.trans gg.sub) h1⟩⟩⟩⟩
theorem vic_enum (hm : X.mg "enumerate" = none) (h : VE X G e te s) (hg : Gl X "enumerate" := by rfl) (hK : X.K = K := by rfl) (hs : starEach [e] X.env = [(false, eval e X.env)] := by rfl) (hs2 : starEach [e] X.env = (false, eval e X.env) :: starEach [] X.env := by rfl) :
    VIC X G (.Tuple elts kk tpos) (.Call (.Name "enumerate" p) [e] [] pos) (iEnumA K (tCons te tNil)) (enumIC s) := by
  refine ⟨hK ▸ pi_enumA hg hm (pa_cons h.pe pa_nil hs2) hs, fun Hf0 H0 α σ ρ Hf H Qd R Rl q k => ?_⟩
  refine h.sn Hf0 H0 α σ ρ Hf H _ _ Rl q fun va v Hf' H' q g ex r => ?_
  rcases dseq_or q with ⟨ds, hd, q⟩ | ⟨ds, hd, q⟩
  · cases va with
    | fz d =>
      cases (show d = .list ds from hd)
      cases r with
      | lst h1 h2 => exact ⟨_, _, rfl, .inl ⟨SqL.of (g.sub _ _ h1), k _ _ Hf' H' q g ex ((src_enumL h2).imp fun Hg Hh p => ⟨p.1, off_same _ _ (p.2 _ _ (g.off _ _ h1))⟩)⟩⟩
    | nw es =>
      cases hd
      obtain ⟨a, ws, rfl, _, _, h1, h2⟩ := r
      exact ⟨_, _, rfl, .inl ⟨SqL.of (off_some h1).2, k _ _ Hf' H' q g ex ((src_enumL h2).imp fun Hg Hh p => ⟨p.1, off_same _ _ (p.2 _ _ h1)⟩)⟩⟩
    | br es =>
      cases hd
      obtain ⟨a, ws, rfl, h1, h2⟩ := r
      exact ⟨_, _, rfl, .inl ⟨SqL.of (off_some h1).2, k _ _ Hf' H' q g ex ((src_enumL h2).imp fun Hg Hh p => ⟨p.1, off_same _ _ (p.2 _ _ h1)⟩)⟩⟩
    | dk => cases hd
  · obtain ⟨a, ws, rfl, h1, h2⟩ := r.tup g hd
    exact ⟨_, _, rfl, .inr ⟨SqT.mono g.sub h1, k _ _ Hf' H' q g ex ((src_enumT h2).imp fun Hg Hh p => ⟨p.1, SqT.mono ((g.off.trans p.2).trans off_same) h1⟩)⟩⟩
end
end TR

namespace TR
open PySem L2 PySem.Spec PyProof.Rows

/-! ### short words for the terms -/
section
variable {X : Cx} {K : PySem.W.Frag} {G : Gd K} {a b c e x1 : Expr} {ta tb tc te : TE} {s t u : VTE} {p pos : Pos} {k : Nat}
theorem ve_fdivW (ha : VE X G a ta s) (hb : VE X G b tb t) : VE X G (.BinOp a .FloorDiv b pos) (tOp (rI CDivW fun i j => .int (i / j)) ta tb) (eOp (intV CDivW fun i j => i / j) s t) := ve_op op_fdivW sr_int ha hb
theorem ve_modP (ha : VE X G a ta s) (hb : VE X G b tb t) : VE X G (.BinOp a .Mod b pos) (tOp (rI (fun _ j => 0 < j) fun i j => .int (i % j)) ta tb) (eOp (intV (fun _ j => 0 < j) fun i j => i % j) s t) := ve_op op_mod sr_int ha hb
theorem ve_eq (hr : Rm k X.A) (ha : VE X G a ta s) (hb : VE X G b tb t) (hK : X.K = K := by rfl) : VE X G (.Compare a [.Eq] [b] pos) (tOp (rEqA K) ta tb) (eOp (eqV false) s t) := ve_cmp (hK ▸ op_eqA hr.room.units) sr_eq ha hb (nomark _)
theorem ve_ne (hr : Rm k X.A) (ha : VE X G a ta s) (hb : VE X G b tb t) (hK : X.K = K := by rfl) : VE X G (.Compare a [.NotEq] [b] pos) (tOp (rNeA K) ta tb) (eOp (eqV true) s t) := ve_cmp (hK ▸ op_neA hr.room.units) sr_ne ha hb (nomark _)
theorem ve_lt (ha : VE X G a ta s) (hb : VE X G b tb t) : VE X G (.Compare a [.Lt] [b] pos) (tOp (rI0 fun i j => .bl (decide (i < j))) ta tb) (eOp (ordV fun i j => decide (i < j)) s t) := ve_cmp op_lt sr_ord ha hb (nomark _)
theorem ve_le (ha : VE X G a ta s) (hb : VE X G b tb t) : VE X G (.Compare a [.LtE] [b] pos) (tOp (rI0 fun i j => .bl (decide (i ≤ j))) ta tb) (eOp (ordV fun i j => decide (i ≤ j)) s t) := ve_cmp op_le sr_ord ha hb (nomark _)
theorem ve_gt (ha : VE X G a ta s) (hb : VE X G b tb t) : VE X G (.Compare a [.Gt] [b] pos) (tOp (rI0 fun i j => .bl (decide (j < i))) ta tb) (eOp (ordV fun i j => decide (j < i)) s t) := ve_cmp op_gt sr_ord ha hb (nomark _)
theorem ve_ge (ha : VE X G a ta s) (hb : VE X G b tb t) : VE X G (.Compare a [.GtE] [b] pos) (tOp (rI0 fun i j => .bl (decide (j ≤ i))) ta tb) (eOp (ordV fun i j => decide (j ≤ i)) s t) := ve_cmp op_ge sr_ord ha hb (nomark _)
theorem ve_isN (ha : VE X G a ta s) (hb : VE X G b tb t) : VE X G (.Compare a [.Is] [b] pos) (tOp (fun x y H Q => y = .non ∧ Q (.bl (decide (x = .non))) H) ta tb) (eOp (isNV false) s t) := ve_cmp op_isN sr_isN ha hb (nomark _)
theorem ve_notN (ha : VE X G a ta s) (hb : VE X G b tb t) : VE X G (.Compare a [.IsNot] [b] pos) (tOp (fun x y H Q => y = .non ∧ Q (.bl (!decide (x = .non))) H) ta tb) (eOp (isNV true) s t) := ve_cmp op_notN sr_notN ha hb (nomark _)
theorem vt_eq (hr : Rm k X.A) (ha : VE X G a ta s) (hb : VE X G b tb t) (hK : X.K = K := by rfl) : VT X G (.Compare a [.Eq] [b] pos) (tTest (tOp (rEqA K) ta tb)) (bV (eOp (eqV false) s t)) := vt_cmp (hK ▸ op_eqA hr.room.units) sr_eq ha hb (nomark _)
theorem vt_ne (hr : Rm k X.A) (ha : VE X G a ta s) (hb : VE X G b tb t) (hK : X.K = K := by rfl) : VT X G (.Compare a [.NotEq] [b] pos) (tTest (tOp (rNeA K) ta tb)) (bV (eOp (eqV true) s t)) := vt_cmp (hK ▸ op_neA hr.room.units) sr_ne ha hb (nomark _)
theorem vt_lt (ha : VE X G a ta s) (hb : VE X G b tb t) : VT X G (.Compare a [.Lt] [b] pos) (tTest (tOp (rI0 fun i j => .bl (decide (i < j))) ta tb)) (bV (eOp (ordV fun i j => decide (i < j)) s t)) := vt_cmp op_lt sr_ord ha hb (nomark _)
theorem vt_le (ha : VE X G a ta s) (hb : VE X G b tb t) : VT X G (.Compare a [.LtE] [b] pos) (tTest (tOp (rI0 fun i j => .bl (decide (i ≤ j))) ta tb)) (bV (eOp (ordV fun i j => decide (i ≤ j)) s t)) := vt_cmp op_le sr_ord ha hb (nomark _)
theorem vt_gt (ha : VE X G a ta s) (hb : VE X G b tb t) : VT X G (.Compare a [.Gt] [b] pos) (tTest (tOp (rI0 fun i j => .bl (decide (j < i))) ta tb)) (bV (eOp (ordV fun i j => decide (j < i)) s t)) := vt_cmp op_gt sr_ord ha hb (nomark _)
theorem vt_ge (ha : VE X G a ta s) (hb : VE X G b tb t) : VT X G (.Compare a [.GtE] [b] pos) (tTest (tOp (rI0 fun i j => .bl (decide (j ≤ i))) ta tb)) (bV (eOp (ordV fun i j => decide (j ≤ i)) s t)) := vt_cmp op_ge sr_ord ha hb (nomark _)
theorem vt_isN (ha : VE X G a ta s) (hb : VE X G b tb t) : VT X G (.Compare a [.Is] [b] pos) (tTest (tOp (fun x y H Q => y = .non ∧ Q (.bl (decide (x = .non))) H) ta tb)) (bV (eOp (isNV false) s t)) := vt_cmp op_isN sr_isN ha hb (nomark _)
theorem vt_notN (ha : VE X G a ta s) (hb : VE X G b tb t) : VT X G (.Compare a [.IsNot] [b] pos) (tTest (tOp (fun x y H Q => y = .non ∧ Q (.bl (!decide (x = .non))) H) ta tb)) (bV (eOp (isNV true) s t)) := vt_cmp op_notN sr_notN ha hb (nomark _)
variable {es : List Expr} {tl : TA} {vl : VTA}
theorem ve_len (hm : X.mg "len" = none) (h : VE X G a ta s) (hg : Gl X "len" := by rfl) (hK : X.K = K := by rfl) (h1 : starEach [a] X.env = (false, eval a X.env) :: starEach [] X.env := by rfl) : VE X G (.Call (.Name "len" p) [a] [] pos) (tCB (fun xs H Q => ∃ p ys, xs = [.ref p] ∧ (SqL K H p ys ∨ SqT K H p ys) ∧ Q (.int ys.length) H) (tCons ta tNil)) (calV lenC (consA s nilA)) :=
  ve_callB sc_len (hK ▸ call_len_seq) hm boot_len (va_cons h va_nil h1) hg (by decide) (by decide) h1
theorem ve_list (hm : X.mg "list" = none) (h : VE X G a ta s) (hg : Gl X "list" := by rfl) (hK : X.K = K := by rfl) (h1 : starEach [a] X.env = (false, eval a X.env) :: starEach [] X.env := by rfl) : VE X G (.Call (.Name "list" p) [a] [] pos) (tCB (fun xs H Q => ∃ p ys, xs = [.ref p] ∧ (SqL K H p ys ∨ SqT K H p ys) ∧ ∀ l, H l = none → Q (.ref l) (upd H l (.lst ys))) (tCons ta tNil)) (calV listC (consA s nilA)) :=
  ve_callTy sc_list (hK ▸ call_list_of) hm PyProof.Rows.boot_list (va_cons h va_nil h1) hg (by decide) (by decide) h1
theorem ve_tuple (hm : X.mg "tuple" = none) (h : VE X G a ta s) (hg : Gl X "tuple" := by rfl) (hK : X.K = K := by rfl) (h1 : starEach [a] X.env = (false, eval a X.env) :: starEach [] X.env := by rfl) : VE X G (.Call (.Name "tuple" p) [a] [] pos) (tCB (fun xs H Q => ∃ p ys, xs = [.ref p] ∧ ((SqL K H p ys ∧ ∀ l, H l = none → Q (.ref l) (upd H l (.tup ys))) ∨ (SqT K H p ys ∧ Q (.ref p) H))) (tCons ta tNil)) (calV tupC (consA s nilA)) :=
  ve_callTy sc_tup (hK ▸ call_tuple_of) hm PyProof.Rows.boot_tuple (va_cons h va_nil h1) hg (by decide) (by decide) h1
theorem ve_intOf (hm : X.mg "int" = none) (h : VE X G a ta s) (hg : Gl X "int" := by rfl) (h1 : starEach [a] X.env = (false, eval a X.env) :: starEach [] X.env := by rfl) : VE X G (.Call (.Name "int" p) [a] [] pos) (tCB (fun xs H Q => (∃ i, xs = [.int i] ∧ Q (.int i) H) ∨ ∃ k, xs = [.bl k] ∧ Q (.int (if k then 1 else 0)) H) (tCons ta tNil)) (calV intC (consA s nilA)) :=
  ve_callTy sc_int call_int1 hm PyProof.Rows.boot_int (va_cons h va_nil h1) hg (by decide) (by decide) h1
theorem ve_abs (hm : X.mg "abs" = none) (h : VE X G a ta s) (hg : Gl X "abs" := by rfl) (h1 : starEach [a] X.env = (false, eval a X.env) :: starEach [] X.env := by rfl) : VE X G (.Call (.Name "abs" p) [a] [] pos) (tCB (fun xs H Q => ∃ i, xs = [.int i] ∧ Q (.int (if i < 0 then -i else i)) H) (tCons ta tNil)) (calV (int1C fun i => if i < 0 then -i else i) (consA s nilA)) :=
  ve_callB (sc_int1 (f := fun i => if i < 0 then -i else i)) call_abs hm PyProof.Rows.boot_abs (va_cons h va_nil h1) hg (by decide) (by decide) h1
theorem ve_max2 (hm : X.mg "max" = none) (h : VE X G a ta s) (h' : VE X G b tb t) (hc : X.calm = true := by rfl) (hg : Gl X "max" := by rfl) (h1 : starEach [a, b] X.env = (false, eval a X.env) :: starEach [b] X.env := by rfl) (h2 : starEach [b] X.env = (false, eval b X.env) :: starEach [] X.env := by rfl) (h3 : (backTo pos (starEach [b] X.env)).any (·.1) = false := by rfl) : VE X G (.Call (.Name "max" p) [a, b] [] pos) (tCB (fun xs H Q => ∃ i j, xs = [.int i, .int j] ∧ Q (.int (if j > i then j else i)) H) (tCons ta (tCons tb tNil))) (calV (int2C fun i j => if j > i then j else i) (consA s (consA t nilA))) :=
  ve_callB (sc_int2 (f := fun i j => if j > i then j else i)) (call_max2 hc) hm PyProof.Rows.boot_max (va_cons h (va_cons h' va_nil h2) h1) hg (by decide) (by decide) h1 h3
theorem ve_min2 (hm : X.mg "min" = none) (h : VE X G a ta s) (h' : VE X G b tb t) (hc : X.calm = true := by rfl) (hg : Gl X "min" := by rfl) (h1 : starEach [a, b] X.env = (false, eval a X.env) :: starEach [b] X.env := by rfl) (h2 : starEach [b] X.env = (false, eval b X.env) :: starEach [] X.env := by rfl) (h3 : (backTo pos (starEach [b] X.env)).any (·.1) = false := by rfl) : VE X G (.Call (.Name "min" p) [a, b] [] pos) (tCB (fun xs H Q => ∃ i j, xs = [.int i, .int j] ∧ Q (.int (if j < i then j else i)) H) (tCons ta (tCons tb tNil))) (calV (int2C fun i j => if j < i then j else i) (consA s (consA t nilA))) :=
  ve_callB (sc_int2 (f := fun i j => if j < i then j else i)) (call_min2 hc) hm PyProof.Rows.boot_min (va_cons h (va_cons h' va_nil h2) h1) hg (by decide) (by decide) h1 h3
theorem ve_sum (hm : X.mg "sum" = none) (h : VE X G a ta s) (hc : X.calm = true := by rfl) (hg : Gl X "sum" := by rfl) (hK : X.K = K := by rfl) (h1 : starEach [a] X.env = (false, eval a X.env) :: starEach [] X.env := by rfl) : VE X G (.Call (.Name "sum" p) [a] [] pos) (tCB (rSumA K) (tCons ta tNil)) (calV sumC (consA s nilA)) :=
  ve_callB sc_sum (hK ▸ cr_sumA hc) hm PyProof.Rows.boot_sum (va_cons h va_nil h1) hg (by decide) (by decide) h1
theorem ve_min (hr : Rm k X.A) (hm : X.mg "min" = none) (h : VE X G a ta s) (hc : X.calm = true := by rfl) (hg : Gl X "min" := by rfl) (hK : X.K = K := by rfl) (h1 : starEach [a] X.env = (false, eval a X.env) :: starEach [] X.env := by rfl) : VE X G (.Call (.Name "min" p) [a] [] pos) (tCB (rMinA K) (tCons ta tNil)) (calV minC (consA s nilA)) :=
  ve_callB sc_min (hK ▸ cr_minA hc hr.room.units) hm PyProof.Rows.boot_min (va_cons h va_nil h1) hg (by decide) (by decide) h1
theorem ve_max (hr : Rm k X.A) (hm : X.mg "max" = none) (h : VE X G a ta s) (hc : X.calm = true := by rfl) (hg : Gl X "max" := by rfl) (hK : X.K = K := by rfl) (h1 : starEach [a] X.env = (false, eval a X.env) :: starEach [] X.env := by rfl) : VE X G (.Call (.Name "max" p) [a] [] pos) (tCB (rMaxA K) (tCons ta tNil)) (calV maxC (consA s nilA)) :=
  ve_callB sc_max (hK ▸ cr_maxA hc hr.room.units) hm PyProof.Rows.boot_max (va_cons h va_nil h1) hg (by decide) (by decide) h1
theorem ve_sorted (hr : Rm k X.A) (hm : X.mg "sorted" = none) (h : VE X G a ta s) (hg : Gl X "sorted" := by rfl) (hK : X.K = K := by rfl) (h1 : starEach [a] X.env = (false, eval a X.env) :: starEach [] X.env := by rfl) : VE X G (.Call (.Name "sorted" p) [a] [] pos) (tCB (rSortD K) (tCons ta tNil)) (calV sortC (consA s nilA)) :=
  ve_callB sc_sorted (hK ▸ cr_sortedD hr.room.units) hm PyProof.Rows.boot_sorted (va_cons h va_nil h1) hg (by decide) (by decide) h1
theorem cr_reprA (hr : Rm k X.A) : CallR X (.builtin "repr") (rReprA X.K) := SkE.call_repr_int.or (cr_reprD hr.room hr.sky)
theorem ve_repr (hr : Rm k X.A) (hm : X.mg "repr" = none) (h : VE X G a ta s) (hg : Gl X "repr" := by rfl) (hK : X.K = K := by rfl) (h1 : starEach [a] X.env = (false, eval a X.env) :: starEach [] X.env := by rfl) : VE X G (.Call (.Name "repr" p) [a] [] pos) (tCB (rReprA K) (tCons ta tNil)) (calV reprC (consA s nilA)) :=
  ve_callB sc_repr (hK ▸ cr_reprA hr) hm PyProof.Rows.boot_repr (va_cons h va_nil h1) hg (by decide) (by decide) h1
end

/-! ### y = [..] on one line, y a local -/
theorem vs_setLc {X : Cx} {K : PySem.W.Frag} {G : Gd K} {y : Str} {py : Pos} {elt tg iter : Expr} {ifs : List Expr} {scope : Scope} {pos spos : Pos} {wi : TI} {g : TG} {tt : TT} {t : VTT} {te : TE} {src : VTI} {ws : List Nat} {asg : VTG} {ce : VTE} (i : Nat) (own : List (Str × Nat)) (hN : X.N.Nodup) (ok : blkC X.N X.env.scope scope own = true) (hi : VIC X G tg iter wi src)
    (hg : ∀ (s : Shared) (H : Hp) (C : Addr) (cl : List (Str × Addr)) (fp : List Addr), VG (X.blk s H scope (compEnvC scope cl C X.env) fp) G tg g ws asg) (ht : ∀ (s : Shared) (H : Hp) (C : Addr) (cl : List (Str × Addr)) (fp : List Addr), VTs (X.blk s H scope (compEnvC scope cl C X.env) fp) G ifs tt t)
    (he : ∀ (s : Shared) (H : Hp) (C : Addr) (cl : List (Str × Addr)) (fp : List Addr), VE (X.blk s H scope (compEnvC scope cl C X.env) fp) G elt te ce) (hy : X.N[i]? = some y := by rfl) (hyl : X.env.scope.names.lookup y = some .local := by rfl)
    (hw : ∀ i ∈ ws, i ∈ own.map (·.2) := by decide) (hc : X.calm = true := by rfl) (hs : ∀ x, foldedSetIterable iter X.env x = pure x := by intro _; rfl) (hsw : swapsWith (.ListComp elt [⟨tg, iter, ifs, 0⟩] scope pos) (some (.Name y py)) spos.line X.env = pure true := by exact sw_true rfl rfl rfl (by decide +kernel)) :
    VS X G (.Assign [.Name y py] (.ListComp elt [⟨tg, iter, ifs, 0⟩] scope pos) spos) (tAsg (tLc wi g tt te (own.map (·.2))) (gName i)) (vSet i (lcV src asg t (frzV ce) (own.map (·.2)))) := by
  refine ⟨ps_setLc hc hN hy hyl hsw hi.pe (blkOk_by ok) (fun s H C cl fp => (hg s H C cl fp).pe) (fun s H C cl fp => (ht s H C cl fp).pe) (fun s H C cl fp => (he s H C cl fp).pe) hs, fun Hf0 H0 α σ ρ Hf H D E R ok' q => ?_⟩
  have sn := snd_lc hi.sn (hg {} (fun _ => none) default [] []).sn (ht {} (fun _ => none) default [] []).sn (vf_of (he {} (fun _ => none) default [] [])).sn hw
  refine sn Hf0 H0 α σ ρ Hf H _ _ R q fun va v Hf' H' q g ex r => ?_
  obtain ⟨α', ρ', R', q'⟩ := R.setV g ex r q
  exact ok'.nx α' _ ρ' Hf' H' R' ex.fz q'
end TR

namespace TR
open PySem L2 PySem.Spec PyProof.Rows
/-! ### names for the readings that the generator prints -/
abbrev divV := intV CDivW fun i j => i / j
abbrev modV := intV (fun _ j => 0 < j) fun i j => i % j
abbrev powV := intV CPow fun i j => i ^ j.toNat
abbrev absC := int1C fun i => if i < 0 then -i else i
abbrev max2C := int2C fun i j => if j > i then j else i
abbrev min2C := int2C fun i j => if j < i then j else i
abbrev frzT (i : Nat) (t : VTS) : VTS := fun D ρ => t D (frzS i ρ)
abbrev vStoreT (i : Nat) (s t : VTE) : VTS := fun D ρ => (∃ ds, ρ[i]? = some (.ow ds)) ∧ vStore i s t D ρ
end TR

namespace TR
open PySem L2 PySem.Spec PyProof.Rows
theorem body_mk {X : Cx} {K : PySem.W.Frag} {b : List Stmt} {N : List Str} {sp : List Va → (Va → Prop) → Prop} {t : VTS} {Fm : Gd K → Prop} (h : ∀ G : Gd K, Fm G → ∃ ts, VSs X G b ts t)
    (hsp : ∀ vas Q, sp vas Q → t { nx := fun _ => Q (.fz .none), rt := Q } (ρ0 N vas)) :
    ∃ t, (∀ G : Gd K, Fm G → ∃ ts, VSs X G b ts t) ∧ ∀ vas Q, sp vas Q → t { nx := fun _ => Q (.fz .none), rt := Q } (ρ0 N vas) := ⟨t, h, hsp⟩
end TR

namespace TR
open PySem L2 PySem.Spec PyProof.Rows
theorem shaped_ints (cs : List Int) : SeqAt.shaped (.list (cs.map PyData.int)) = true := by
  unfold SeqAt.shaped
  refine Bool.and_eq_true_iff.mpr ⟨?_, decide_eq_true ?_⟩
  · simp only [PyData.canLay0]
    induction cs with
    | nil => rfl
    | cons c cs ih => simpa [PyData.canLayAll0, PyData.canLay0] using ih
  · simp only [PyData.depth]
    have : PyData.depthAll (cs.map PyData.int) ≤ 1 := by
      induction cs with
      | nil => exact Nat.zero_le _
      | cons c cs ih => simpa [PyData.depthAll, PyData.depth] using ih
    omega
/-- the deck of two: a list of numbers, and a number -/
def Form3 {K : PySem.W.Frag} (G : Gd K) : Prop := ∃ l, (∀ b, G.F b = true ↔ b = G.dk ∨ b = l) ∧
  ∀ H, G.R H ↔ ∃ (cs : List Int) (m : Int), H G.dk = some (.lst [.ref l, .int m]) ∧ H l = some (.lst (cs.map V.int)) ∧ cs.length < sizeLine
def tN3 (K : PySem.W.Frag) : TS :=
  tSeq
    (tWhile
      (tAnd (tTest (tOp (rI0 fun i j => V.bl (decide (j < i))) (tVar 1) (tC (V.int 1))))
        (tTest (tOp (rNeA K) (tOp (rIxA K) (tVar 0) (tC (V.int 0))) (tLst tNil))))
      (tSeq
        (tAsg (tBM0 K "list" rPop (tOp (rIxA K) (tVar 0) (tC (V.int 0)))) (gName 2))
        (tIfS (tTest (tOp (rI0 fun i j => V.bl (decide (j < i))) (tVar 2) (tC (V.int 0))))
          (tSeq
            (tDrop (tBM K "list" rAppend (tOp (rIxA K) (tVar 0) (tC (V.int 0))) (tCons (tOp (rI CDivW fun i j => V.int (i / j)) (tVar 2) (tVar 1)) tNil)))
            (tRet (tOp (rI (fun x j => 0 < j) fun i j => V.int (i % j)) (tVar 2) (tVar 1))))
          tNext)))
    (tSeq
      (tAsg
        (tOp (rI (fun x j => 0 < j) fun i j => V.int (i % j))
          (tOp (TR.rAdd K) (tOp (rMulA K) (tOp (rIxA K) (tVar 0) (tC (V.int 1))) (tC (V.int 48271)))
            (tC (V.int 11)))
          (tC (V.int 2147483647)))
        (gSub (tVar 0) (tC (V.int 1)) rSetL))
      (tRet
        (tOp (rI (fun x j => 0 < j) fun i j => V.int (i % j))
          (tOp (rI CDivW fun i j => V.int (i / j))
            (tOp (rI (fun x j => 0 < j) fun i j => V.int (i % j))
              (tOp (rMulA K) (tOp (rIxA K) (tVar 0) (tC (V.int 1))) (tOp (rIxA K) (tVar 0) (tC (V.int 1))))
              (tC (V.int 2147483629)))
            (tC (V.int 7)))
          (tVar 1))))

theorem ite_tt {b : Bool} {p q : Prop} (h : b = true) (hp : p) : if b = true then p else q := by rw [if_pos h]; exact hp
theorem ite_ff {b : Bool} {p q : Prop} (h : b = false) (hq : q) : if b = true then p else q := by rw [if_neg (by rw [h]; exact Bool.false_ne_true)]; exact hq
theorem DpAll.of_ints {K : PySem.W.Frag} {H : Hp} : ∀ cs : List Int, DpAll K H (cs.map V.int) (cs.map PyData.int)
  | [] => .nil
  | c :: cs => .cons (.int c) (DpAll.of_ints cs)
theorem rIxA_at {K : PySem.W.Frag} {H : Hp} {a : Addr} {xs : List V} {j : Nat} {v : V} {Q : L2.VK} (h : H a = some (.lst xs)) (e : xs[j]? = some v) (q : Q v H) : rIxA K (.ref a) (.int j) H Q :=
  .inl ⟨a, xs, _, v, rfl, rfl, SqL.of h, atI_nat e, q⟩
structure D3 (H : Hp) (a l : Addr) (cs : List Int) (m : Int) : Prop where
  a : H a = some (.lst [.ref l, .int m])
  l : H l = some (.lst (cs.map V.int))
theorem D3.ne {H : Hp} {a l : Addr} {cs : List Int} {m : Int} (d : D3 H a l cs m) : l ≠ a := fun z => by
  have h1 := d.a
  have h2 := d.l
  rw [z, h1] at h2
  cases cs with
  | nil => cases h2
  | cons c cs => cases h2
theorem D3.list {H : Hp} {a l : Addr} {cs cs' : List Int} {m : Int} (d : D3 H a l cs m) : D3 (upd H l (.lst (cs'.map V.int))) a l cs' m :=
  ⟨by rw [upd_ne (Ne.symm d.ne)]; exact d.a, upd_same⟩
theorem D3.num {H : Hp} {a l : Addr} {cs : List Int} {m m' : Int} (d : D3 H a l cs m) : D3 (upd H a (.lst [.ref l, .int m'])) a l cs m' :=
  ⟨upd_same, by rw [upd_ne d.ne]; exact d.l⟩
theorem D3.fresh {H : Hp} {a l p : Addr} {cs : List Int} {m : Int} {o : HO} (d : D3 H a l cs m) (hp : H p = none) : D3 (upd H p o) a l cs m := by
  refine ⟨?_, ?_⟩
  · rw [upd_ne fun z => by rw [← z, d.a] at hp; cases hp]; exact d.a
  · rw [upd_ne fun z => by rw [← z, d.l] at hp; cases hp]; exact d.l
/-- what stands beside the deck still stands -/
def Beside (a l : Addr) (H H' : Hp) : Prop := ∀ b o, b ≠ a → b ≠ l → H b = some o → H' b = some o
theorem Beside.fresh {a l p : Addr} {H0 H : Hp} {o : HO} (h : Beside a l H0 H) (hp : H p = none) : Beside a l H0 (upd H p o) := fun b u h1 h2 h3 => by
  have := h b u h1 h2 h3
  rw [upd_ne fun z => by rw [← z, this] at hp; cases hp]
  exact this
theorem Beside.at {a l p : Addr} {H0 H : Hp} {o : HO} (h : Beside a l H0 H) (hp : p = a ∨ p = l) : Beside a l H0 (upd H p o) := fun b u h1 h2 h3 => by
  rw [upd_ne fun z => by rcases hp with r | r; exact h1 (z.trans r); exact h2 (z.trans r)]
  exact h b u h1 h2 h3
theorem tyV_of {K : PySem.W.Frag} {H : Hp} {p : Addr} {xs : List V} (h : H p = some (.lst xs)) : tyV K "list" (.ref p) H := .inl ⟨rfl, _, SqL.of h⟩
theorem n3_read {K : PySem.W.Frag} {a l : Addr} {cs : List Int} {m n : Int} {H : Hp} {Q : L2.VK} (d : D3 H a l cs m) (hn : 0 < n) (hb : n.natAbs.log2 < 9000) (hlen : cs.length < sizeLine)
    (fin : ∀ cs' m' H' r, D3 H' a l cs' m' → cs'.length ≤ cs.length → Beside a l H H' → 0 ≤ r → r < n → Q (.int r) H') :
    tN3 K { nx := fun _ H' => Q .non H', rt := Q } [some (.ref a), some (.int n), none] H := by
  unfold tN3
  refine ⟨fun k σ H1 => ∃ cs1 m1 x, cs1.length = k ∧ cs1.length ≤ cs.length ∧ D3 H1 a l cs1 m1 ∧ Beside a l H H1 ∧ σ = [some (.ref a), some (.int n), x], ⟨_, cs, m, none, rfl, Nat.le_refl _, d, fun _ _ _ _ h => h, rfl⟩, ?_⟩
  rintro k σ H1 ⟨cs1, m1, x, hk, hc, d1, b1, rfl⟩
  have last : ∀ (H2 : Hp) (x : Option V), D3 H2 a l cs1 m1 → Beside a l H H2 → tSeq
      (tAsg
        (tOp (rI (fun x j => 0 < j) fun i j => V.int (i % j))
          (tOp (TR.rAdd K) (tOp (rMulA K) (tOp (rIxA K) (tVar 0) (tC (V.int 1))) (tC (V.int 48271)))
            (tC (V.int 11)))
          (tC (V.int 2147483647)))
        (gSub (tVar 0) (tC (V.int 1)) rSetL))
      (tRet
        (tOp (rI (fun x j => 0 < j) fun i j => V.int (i % j))
          (tOp (rI CDivW fun i j => V.int (i / j))
            (tOp (rI (fun x j => 0 < j) fun i j => V.int (i % j))
              (tOp (rMulA K) (tOp (rIxA K) (tVar 0) (tC (V.int 1))) (tOp (rIxA K) (tVar 0) (tC (V.int 1))))
              (tC (V.int 2147483629)))
            (tC (V.int 7)))
          (tVar 1))) { nx := fun _ H' => Q .non H', rt := Q } [some (.ref a), some (.int n), x] H2 := by
    intro H2 x d2 b2
    have mb : ∀ i : Int, -2 ^ 64 < i % 2147483647 ∧ i % 2147483647 < 2 ^ 64 := fun i => by
      have h1 := Int.emod_nonneg i (b := 2147483647) (by decide)
      have h2 := Int.emod_lt_of_pos i (b := 2147483647) (by decide)
      omega
    refine ⟨_, rfl, ?_⟩
    refine rIxA_at (j := 1) d2.a rfl ?_
    refine .inl ⟨_, _, rfl, rfl, .inr (by decide), ?_⟩
    refine .inl ⟨_, _, rfl, rfl, ?_⟩
    refine ⟨_, _, rfl, rfl, (by decide : (0 : Int) < _), ?_⟩
    refine ⟨_, rfl, ?_⟩
    refine ⟨_, _, _, 1, rfl, rfl, d2.a, rfl, ?_⟩
    have d3 := d2.num (m' := (m1 * 48271 + 11) % 2147483647)
    refine ⟨_, rfl, ?_⟩
    refine rIxA_at (j := 1) d3.a rfl ?_
    refine ⟨_, rfl, ?_⟩
    refine rIxA_at (j := 1) d3.a rfl ?_
    refine .inl ⟨_, _, rfl, rfl, .inl (mb _), ?_⟩
    refine ⟨_, _, rfl, rfl, (by decide : (0 : Int) < _), ?_⟩
    refine ⟨_, _, rfl, rfl, ⟨by decide, by decide⟩, ?_⟩
    refine ⟨_, rfl, ?_⟩
    refine ⟨_, _, rfl, rfl, hn, ?_⟩
    exact fin cs1 _ _ _ d3 hc (b2.at (.inl rfl)) (Int.emod_nonneg _ (Int.ne_of_gt hn)) (Int.emod_lt_of_pos _ hn)
  refine ⟨_, rfl, _, _, rfl, rfl, _, rfl, ?_⟩
  by_cases h1 : 1 < n
  · refine ite_tt (decide_eq_true h1) ?_
    refine ⟨_, rfl, ?_⟩
    refine rIxA_at (j := 0) d1.a rfl ?_
    refine ⟨Nat.zero_le _, fun p hp => ?_⟩
    have hpl : l ≠ p := fun z => by rw [← z, d1.l] at hp; cases hp
    have d2 := d1.fresh (o := .lst []) hp
    refine .inr ⟨.list (cs1.map .int), .list [], .lst (SqL.of d2.l) (DpAll.of_ints cs1), .lst (SqL.of upd_same) .nil, shaped_ints _, rfl, _, rfl, ?_⟩
    cases hcs : cs1.reverse with
    | nil =>
      have : cs1 = [] := by simpa using hcs
      subst this
      refine ite_ff rfl ?_
      exact last _ _ d2 (b1.fresh hp)
    | cons c cr =>
      have e : cs1 = cr.reverse ++ [c] := by rw [← List.reverse_reverse cs1, hcs, List.reverse_cons]
      have el : cs1.length = cr.length + 1 := by rw [e]; simp
      have ne : (!PyData.eqv (.list (cs1.map .int)) (.list [])) = true := by
        cases cs1 with
        | nil => cases hcs
        | cons _ _ => rfl
      refine ite_tt ne ?_
      refine ⟨fun σ' H' => ∃ k', k' < k ∧ ∃ cs1 m1 x, cs1.length = k' ∧ cs1.length ≤ cs.length ∧ D3 H' a l cs1 m1 ∧ Beside a l H H' ∧ σ' = [some (.ref a), some (.int n), x], fun σ' H' h => h, ?_⟩
      refine ⟨_, rfl, ?_⟩
      refine rIxA_at (j := 0) d2.a rfl ?_
      refine ⟨tyV_of d2.l, ?_⟩
      refine ⟨l, cs1.map V.int, .int c, rfl, rfl, d2.l, by rw [e]; simp, ?_⟩
      have dl : (cs1.map V.int).dropLast = cr.reverse.map V.int := by rw [e]; simp
      rw [dl]
      have d3 := d2.list (cs' := cr.reverse)
      have b3 := (b1.fresh (o := .lst []) hp).at (o := .lst (cr.reverse.map V.int)) (.inr (rfl : l = l))
      refine ⟨_, rfl, _, _, rfl, rfl, _, rfl, ?_⟩
      by_cases h0 : 0 < c
      · refine ite_tt (decide_eq_true h0) ?_
        refine ⟨_, rfl, ?_⟩
        refine rIxA_at (j := 0) d3.a rfl ?_
        refine ⟨tyV_of d3.l, ?_⟩
        refine ⟨_, rfl, _, rfl, _, _, rfl, rfl, ⟨hn, hb⟩, ?_⟩
        refine ⟨l, _, _, rfl, rfl, d3.l, by rw [List.length_map, List.length_reverse]; omega, ?_⟩
        rw [show cr.reverse.map V.int ++ [V.int (c / n)] = (cr.reverse ++ [c / n]).map V.int by simp]
        refine ⟨_, rfl, _, rfl, _, _, rfl, rfl, hn, ?_⟩
        refine fin _ _ _ _ d3.list ?_ (b3.at (.inr rfl)) (Int.emod_nonneg _ (Int.ne_of_gt hn)) (Int.emod_lt_of_pos _ hn)
        rw [List.length_append, List.length_reverse]
        exact Nat.le_trans (by simp; omega) hc
      · refine ite_ff (decide_eq_false h0) ?_
        exact ⟨cr.length, by omega, cr.reverse, m1, _, by simp, by simp; omega, d3, b3, rfl⟩
  · refine ite_ff (decide_eq_false h1) (ite_ff rfl ?_)
    exact last _ _ d1 b1
end TR
namespace TR
open PySem L2 PySem.Spec PyProof.Rows
/-- the next number below n -/
def spNext : List Va → (Va → Prop) → Prop := fun vas Q => ∃ n : Int, vas = [.dk, .fz (.int n)] ∧ 0 < n ∧ n.natAbs.log2 < 9000 ∧ ∀ r : Int, 0 ≤ r → r < n → Q (.fz (.int r))
theorem n3_lift {K : PySem.W.Frag} {G : Gd K} (hG : Form3 G) {vs : List V} {H : Hp} {Q : L2.VK} {E : XK} (h : liftSp G spNext vs H Q E) :
    ∃ (a : Addr) (n : Int), vs = [.ref a, .int n] ∧ tN3 K { nx := fun _ H' => Q .non H', rt := Q } [some (.ref a), some (.int n), none] H := by
  obtain ⟨Hs, Hf, vas, Qd, g, rv, ⟨n, rfl, hn, hb, q⟩, kk⟩ := h
  obtain ⟨l, hF, hR⟩ := hG
  obtain ⟨cs, m, h1, h2, h3⟩ := (hR H).mp g.res
  have e : vs = [.ref G.dk, .int n] := by
    cases rv with
    | cons r t => cases t with
      | cons r2 t2 => cases t2 with
        | nil =>
          rw [show _ = V.ref G.dk from r]
          cases (show Dq K Hf _ (.int n) from r2) with
          | int => rfl
  refine ⟨_, _, e, n3_read ⟨h1, h2⟩ hn hb h3 fun cs' m' H' r d hc b r0 r1 => ?_⟩
  have off' : ∀ b, G.F b = false → b ≠ G.dk ∧ b ≠ l := fun b hb => ⟨fun z => Bool.noConfusion (hb.symm.trans ((hF b).mpr (.inl z))), fun z => Bool.noConfusion (hb.symm.trans ((hF b).mpr (.inr z)))⟩
  refine kk (.fz (.int r)) (.int r) Hf H' (q r r0 r1) trivial ⟨g.ok, fun c o hc => ?_, g.nf, (hR H').mpr ⟨cs', m', d.a, d.l, Nat.lt_of_le_of_lt hc h3⟩⟩ ⟨Same.refl _, fun c o hc => ?_, fun _ _ => rfl⟩ (Dq.int r)
  · have hf : G.F c = false := by
      cases e : G.F c with
      | false => rfl
      | true => rw [g.nf c e] at hc; cases hc
    exact b c o (off' c hf).1 (off' c hf).2 (g.sub c o hc)
  · obtain ⟨hf, ho⟩ := off_some hc
    rw [off_of hf]
    exact b c o (off' c hf).1 (off' c hf).2 ho
end TR

namespace TR
open PySem L2 PySem.Spec PyProof.Rows
/-! ### slices -/
def cutD (ds : List PyData) (lo hi : Option Int) : List PyData := (ds.drop (HT.sIx ds.length 0 lo)).take (HT.sIx ds.length ds.length hi - HT.sIx ds.length 0 lo)
theorem DqL.cut {K : PySem.W.Frag} {H : Hp} {vs : List V} {ds : List PyData} (h : DqL K H vs ds) (lo hi : Option Int) : DqL K H (cutV vs lo hi) (cutD ds lo hi) := by
  unfold cutV cutD
  rw [h.length]
  exact DqL.take _ (DqL.drop _ h)
abbrev VTO := List Sl → (Option Int → Prop) → Prop
def noneO : VTO := fun _ Q => Q none
def someO (s : VTE) : VTO := fun ρ Q => s ρ fun va => match va.rd with
  | .int i => Q (some i)
  | _ => False
structure VO (X : Cx) {K : PySem.W.Frag} (G : Gd K) (e : Option Expr) (to : TO) (t : VTO) : Prop where
  pe : PO X e to
  sn : ∀ (Hf0 H0 : Hp) (α : Nat → Addr) (σ : L2.St) (ρ : List Sl) (Hf H : Hp) (Qd : Option Int → Prop) (Q : Option Int → Hp → Prop), Rel G Hf0 H0 α σ ρ Hf H → t ρ Qd →
    (∀ b Hf' H', Qd b → Good G Hf' H' → Ext G Hf H Hf' H' → Q b H') → to σ H Q
def slV (s : VTE) (l h : VTO) : VTE := fun ρ Q => s ρ fun va => l ρ fun lo => h ρ fun hi => match va.rd with
  | .list ds => Q (.nw (cutD ds lo hi))
  | .tuple ds => (HT.sIx ds.length 0 lo = 0 ∧ HT.sIx ds.length ds.length hi = ds.length → False) ∧ Q (.fz (.tuple (cutD ds lo hi)))
  | _ => False
def rSlA (K : PySem.W.Frag) : V → Option Int → Option Int → Hp → L2.VK → Prop := fun x lo hi H Q => rSlL K x lo hi H Q ∨ rSlT K x lo hi H Q
theorem sl_any {X : Cx} : L2.SlR X (rSlA X.K) := by
  intro pins s σ H x v vl vu lo hi sl Q I rx hs pl pu h
  rcases h with h | h
  · exact sl_list pins s σ H x v vl vu lo hi sl Q I rx hs pl pu h
  · exact sl_tup pins s σ H x v vl vu lo hi sl Q I rx hs pl pu h
section
variable {X : Cx} {K : PySem.W.Frag} {G : Gd K} {a b e : Expr} {te ta tb : TE} {s t : VTE} {pos p p1 p2 p3 : Pos} {lo hi : Option Expr} {tl th : TO} {l h : VTO} {rest : List Expr}
theorem vo_none : VO X G none tNoPart noneO := ⟨po_none, fun Hf0 H0 α σ ρ Hf H Qd Q R q k => k none Hf H q R.good Ext.refl⟩
theorem vo_some (he : VE X G e te s) : VO X G (some e) (tPart te) (someO s) := by
  refine ⟨po_some he.pe, fun Hf0 H0 α σ ρ Hf H Qd Q R q k => ?_⟩
  refine he.sn Hf0 H0 α σ ρ Hf H _ _ R q fun va v Hf1 H1 q1 g1 e1 r1 => ?_
  split at q1
  · rename_i i hi
    exact ⟨i, r1.int hi, k _ Hf1 H1 q1 g1 e1⟩
  · exact q1.elim
theorem ve_slice (he : VE X G a te s) (hl : VO X G lo tl l) (hh : VO X G hi th h) (hK : X.K = K := by rfl) : VE X G (.Subscript a (.Slice lo hi none p2) pos) (tSl (rSlA K) te tl th) (slV s l h) := by
  refine ⟨pe_slice (hK ▸ sl_any) he.pe hl.pe hh.pe, fun Hf0 H0 α σ ρ Hf H Qd Q R q k => ?_⟩
  refine he.sn Hf0 H0 α σ ρ Hf H _ _ R q fun va v Hf1 H1 q1 g1 e1 r1 => ?_
  refine hl.sn Hf0 H0 α σ ρ Hf1 H1 _ _ (R.step g1 e1) q1 fun lo Hf2 H2 q2 g2 e2 => ?_
  refine hh.sn Hf0 H0 α σ ρ Hf2 H2 _ _ ((R.step g1 e1).step g2 e2) q2 fun hi Hf3 H3 q3 g3 e3 => ?_
  have r3 := (r1.step e2).step e3
  have kk := Post.at R.good (Ext.trans R.good g3 e1 (Ext.trans g1 g3 e2 e3)) k
  split at q3
  · rename_i ds hd
    obtain ⟨x, xs, rfl, h1, h2⟩ := r3.lst g3 hd
    exact .inl ⟨x, xs, rfl, SqL.of h1, fun p hp => kk.lst g3 q3 (h2.cut lo hi) hp⟩
  · rename_i ds hd
    obtain ⟨x, xs, rfl, h1, h2⟩ := r3.tup g3 hd
    exact .inr ⟨x, xs, rfl, SqT.mono g3.sub h1, by rw [h2.length]; exact q3.1, fun p hp => kk.tup g3 q3.2 (h2.cut lo hi) hp⟩
  · exact q3.elim
/-- e[::-1] of a list -/
def revV (s : VTE) : VTE := fun ρ Q => s ρ fun va => match va.rd with
  | .list ds => Q (.nw ds.reverse)
  | _ => False
theorem ve_rev {k : Nat} (he : VE X G a te s) (hK : X.K = K := by rfl) : VE X G (.Subscript a (.Slice none none (some (.UnaryOp .USub (.Constant (.int 1) k p1) p2)) p3) pos) (tRevL K te) (revV s) := by
  refine ⟨hK ▸ pe_revL he.pe, fun Hf0 H0 α σ ρ Hf H Qd Q R q k => ?_⟩
  refine he.sn Hf0 H0 α σ ρ Hf H _ _ R q fun va v Hf1 H1 q1 g1 e1 r1 => ?_
  split at q1
  · rename_i ds hd
    obtain ⟨x, xs, rfl, h1, h2⟩ := r1.lst g1 hd
    exact ⟨x, xs, rfl, SqL.of h1, fun p hp => (Post.at R.good e1 k).lst g1 q1 h2.reverse hp⟩
  · exact q1.elim
/-! ### not, and, or as values of tests -/
def notV (s : VTE) : VTE := fun ρ Q => s ρ fun va => match va.rd with
  | .bool b => Q (.fz (.bool (!b)))
  | _ => False
theorem ve_not (he : VE X G a te s) : VE X G (.UnaryOp .Not a pos) (tNotV te) (notV s) := by
  refine ⟨pe_not he.pe, fun Hf0 H0 α σ ρ Hf H Qd Q R q k => ?_⟩
  refine he.sn Hf0 H0 α σ ρ Hf H _ _ R q fun va v Hf1 H1 q1 g1 e1 r1 => ?_
  split at q1
  · rename_i b hb
    exact ⟨b, r1.bl hb, (Post.at R.good e1 k).flat g1 q1 (.bl _)⟩
  · exact q1.elim
def andV (s t : VTE) : VTE := fun ρ Q => s ρ fun va => match va.rd with
  | .bool b => if b = true then t ρ Q else Q (.fz (.bool false))
  | _ => False
def orV (s t : VTE) : VTE := fun ρ Q => s ρ fun va => match va.rd with
  | .bool b => if b = true then Q (.fz (.bool true)) else t ρ Q
  | _ => False
theorem ve_b {te : TE} (h : VE X G e te s) : VE X G e te s := h
theorem vb_one {op} (h : VE X G a ta s) : VE X G (.BoolOp op [a] pos) ta s := ⟨pe_one h.pe, h.sn⟩
theorem vb_and (ha : VE X G a ta s) (hb : VE X G (.BoolOp .And (b :: rest) pos) tb t) : VE X G (.BoolOp .And (a :: b :: rest) pos) (tAndV ta tb) (andV s t) := by
  refine ⟨pe_and ha.pe hb.pe, fun Hf0 H0 α σ ρ Hf H Qd Q R q k => ?_⟩
  refine ha.sn Hf0 H0 α σ ρ Hf H _ _ R q fun va v Hf1 H1 q1 g1 e1 r1 => ?_
  split at q1
  · rename_i b hb'
    refine ⟨b, r1.bl hb', ?_⟩
    cases b with
    | true =>
      rw [if_pos rfl] at q1 ⊢
      exact hb.sn Hf0 H0 α σ ρ Hf1 H1 _ _ (R.step g1 e1) q1 (Post.at R.good e1 k)
    | false =>
      rw [if_neg Bool.false_ne_true] at q1 ⊢
      exact (Post.at R.good e1 k).flat g1 q1 (.bl _)
  · exact q1.elim
theorem vb_or (ha : VE X G a ta s) (hb : VE X G (.BoolOp .Or (b :: rest) pos) tb t) : VE X G (.BoolOp .Or (a :: b :: rest) pos) (tOrV ta tb) (orV s t) := by
  refine ⟨pe_or ha.pe hb.pe, fun Hf0 H0 α σ ρ Hf H Qd Q R q k => ?_⟩
  refine ha.sn Hf0 H0 α σ ρ Hf H _ _ R q fun va v Hf1 H1 q1 g1 e1 r1 => ?_
  split at q1
  · rename_i b hb'
    refine ⟨b, r1.bl hb', ?_⟩
    cases b with
    | true =>
      rw [if_pos rfl] at q1 ⊢
      exact (Post.at R.good e1 k).flat g1 q1 (.bl _)
    | false =>
      rw [if_neg Bool.false_ne_true] at q1 ⊢
      exact hb.sn Hf0 H0 α σ ρ Hf1 H1 _ _ (R.step g1 e1) q1 (Post.at R.good e1 k)
  · exact q1.elim
/-! ### any, all of bools -/
def anyC : List Va → (Va → Prop) → Prop := fun vas Q => match vas with
  | [x] => match x.rd with
    | .list ds => ∃ bs : List Bool, ds = bs.map PyData.bool ∧ Q (.fz (.bool (bs.any id)))
    | _ => False
  | _ => False
def allC : List Va → (Va → Prop) → Prop := fun vas Q => match vas with
  | [x] => match x.rd with
    | .list ds => ∃ bs : List Bool, ds = bs.map PyData.bool ∧ Q (.fz (.bool (bs.all id)))
    | _ => False
  | _ => False
theorem sc_any : SndC G (rAny K) anyC := by
  intro Hs Hf H vs vas Qd Q g r q k
  unfold anyC at q
  split at q
  · cases r with
    | cons r1 r2 =>
      cases r2
      split at q
      · rename_i ds hd
        obtain ⟨a, xs, rfl, h1, h2⟩ := r1.lst g hd
        obtain ⟨bs, rfl, q⟩ := q
        exact ⟨a, bs, rfl, by rw [← DqL.bools h2]; exact SqL.of h1, k.flat g q (.bl _)⟩
      · exact q.elim
  · exact q.elim
theorem sc_all : SndC G (rAll K) allC := by
  intro Hs Hf H vs vas Qd Q g r q k
  unfold allC at q
  split at q
  · cases r with
    | cons r1 r2 =>
      cases r2
      split at q
      · rename_i ds hd
        obtain ⟨a, xs, rfl, h1, h2⟩ := r1.lst g hd
        obtain ⟨bs, rfl, q⟩ := q
        exact ⟨a, bs, rfl, by rw [← DqL.bools h2]; exact SqL.of h1, k.flat g q (.bl _)⟩
      · exact q.elim
  · exact q.elim
theorem ve_any (hm : X.mg "any" = none) (h : VE X G a ta s) (hc : X.calm = true := by rfl) (hg : Gl X "any" := by rfl) (hK : X.K = K := by rfl) (h1 : starEach [a] X.env = (false, eval a X.env) :: starEach [] X.env := by rfl) : VE X G (.Call (.Name "any" p) [a] [] pos) (tCB (rAny K) (tCons ta tNil)) (calV anyC (consA s nilA)) :=
  ve_callB sc_any (hK ▸ cr_any hc) hm PyProof.Rows.boot_any (va_cons h va_nil h1) hg (by decide) (by decide) h1
theorem ve_all (hm : X.mg "all" = none) (h : VE X G a ta s) (hc : X.calm = true := by rfl) (hg : Gl X "all" := by rfl) (hK : X.K = K := by rfl) (h1 : starEach [a] X.env = (false, eval a X.env) :: starEach [] X.env := by rfl) : VE X G (.Call (.Name "all" p) [a] [] pos) (tCB (rAll K) (tCons ta tNil)) (calV allC (consA s nilA)) :=
  ve_callB sc_all (hK ▸ cr_all hc) hm PyProof.Rows.boot_all (va_cons h va_nil h1) hg (by decide) (by decide) h1
end
end TR

namespace TR
open PySem L2 PySem.Spec PyProof.Rows
/-- nothing -/
abbrev noH : Hp := fun _ => none
/-! ### the script: read, never written -/
theorem gS_ex {K : PySem.W.Frag} {H : Hp} {a : Addr} {ns : List Int} (h : SqL K H a (ns.map V.int)) :
    ∃ G : Gd K, G.dk = a ∧ Good G noH H ∧ (∀ H', G.R H' → SqL K H' G.dk (ns.map V.int)) ∧ ∀ Hf' H', Ext G noH H Hf' H' → G.R H' → Same H H' := by
  rcases h with h | h
  · have ne : H a ≠ none := fun z => by
      rcases h with h | ⟨o, h⟩
      · rw [z] at h; cases h
      · rw [z] at h; cases h
    refine ⟨⟨fun b => b == a, fun H' => H' a = H a, a⟩, rfl, ⟨⟨fun H1 H2 e r => (e a (beq_self_eq_true a)).trans r, fun H1 b r e => ?_⟩, fun _ _ z => (nomatch z), fun _ _ => rfl, rfl⟩, fun H' r => .inl ?_, fun Hf' H' x r b o e => ?_⟩
    · rw [eq_of_beq e]
      exact fun z => ne (r.symm.trans z)
    · rcases h with h | ⟨o, h⟩
      · exact .inl ((show H' a = H a from r).trans h)
      · exact .inr ⟨o, (show H' a = H a from r).trans h⟩
    · by_cases hb : b = a
      · rw [hb] at e ⊢
        exact (show H' a = H a from r).trans e
      · have hf : (b == a) = false := by simpa using hb
        have := x.kp b o (by rw [off_of hf]; exact e)
        exact (off_some this).2
  · exact ⟨⟨fun _ => false, fun _ => True, a⟩, rfl, ⟨⟨fun _ _ _ _ => trivial, fun _ _ _ e => (nomatch e)⟩, fun _ _ z => (nomatch z), fun _ _ => rfl, trivial⟩, fun H' _ => .inr h,
      fun Hf' H' x _ b o e => (off_some (x.kp b o (by rw [off_of (show (⟨fun _ => false, fun _ => True, a⟩ : Gd K).F b = false from rfl)]; exact e))).2⟩
def scutV (i : Nat) (ns : List Int) (l h : VTO) : VTE := fun ρ Q => ρ[i]? = some .dk ∧ l ρ fun lo => h ρ fun hi => Q (.nw (cutD (ns.map .int) lo hi))
def slenV (i : Nat) (ns : List Int) : VTE := fun ρ Q => ρ[i]? = some .dk ∧ Q (.fz (.int ns.length))
section
variable {X : Cx} {K : PySem.W.Frag} {G : Gd K} {x : Str} {pos p p2 : Pos} {lo hi : Option Expr} {tl th : TO} {l h : VTO} {i : Nat} {ns : List Int}
theorem ve_scut (hR : ∀ H', G.R H' → SqL K H' G.dk (ns.map V.int)) (hv : VE X G (.Name x p) (tVar i) (varV i)) (hl : VO X G lo tl l) (hh : VO X G hi th h) (hK : X.K = K := by rfl) :
    VE X G (.Subscript (.Name x p) (.Slice lo hi none p2) pos) (tSl (rSlA K) (tVar i) tl th) (scutV i ns l h) := by
  refine ⟨pe_slice (hK ▸ sl_any) hv.pe hl.pe hh.pe, fun Hf0 H0 α σ ρ Hf H Qd Q R q k => ?_⟩
  obtain ⟨hi, q⟩ := q
  have hs := R.sl i _ hi
  refine ⟨_, hs, ?_⟩
  refine hl.sn Hf0 H0 α σ ρ Hf H _ _ R q fun lo Hf2 H2 q2 g2 e2 => ?_
  refine hh.sn Hf0 H0 α σ ρ Hf2 H2 _ _ (R.step g2 e2) q2 fun hi Hf3 H3 q3 g3 e3 => ?_
  have kk := Post.at R.good (Ext.trans R.good g3 e2 e3) k
  refine .inl ⟨G.dk, ns.map V.int, rfl, hR H3 g3.res, fun p hp => kk.lst g3 q3 (DqL.cut (DqL.of_ints ns) lo hi) hp⟩
theorem ve_slen (hR : ∀ H', G.R H' → SqL K H' G.dk (ns.map V.int)) (hm : X.mg "len" = none) (hv : VE X G (.Name x p) (tVar i) (varV i)) {lp : Pos} (hg : Gl X "len" := by rfl) (hK : X.K = K := by rfl) (h1 : starEach [.Name x p] X.env = (false, eval (.Name x p) X.env) :: starEach [] X.env := by rfl) :
    VE X G (.Call (.Name "len" lp) [.Name x p] [] pos) (tCB (fun xs H Q => ∃ p ys, xs = [.ref p] ∧ (SqL K H p ys ∨ SqT K H p ys) ∧ Q (.int ys.length) H) (tCons (tVar i) tNil)) (slenV i ns) := by
  refine ⟨pe_callB (hK ▸ call_len_seq) hg hm boot_len (pa_cons hv.pe pa_nil h1) (by decide) (by decide) h1 rfl, fun Hf0 H0 α σ ρ Hf H Qd Q R q k => ?_⟩
  obtain ⟨hi, q⟩ := q
  have hs := R.sl i _ hi
  refine ⟨_, hs, G.dk, ns.map V.int, rfl, .inl (hR H R.good.res), ?_⟩
  rw [List.length_map]
  exact k (.fz (.int ns.length)) _ Hf H q R.good Ext.refl (Dq.int _)
end
/-! ### a body whose end is read over the heap -/
def RunH {K : PySem.W.Frag} (G : Gd K) (Hf0 H0 : Hp) (ts : TS) (E : Ends) (p : List Sl → Prop) : Prop :=
  ∀ (α : Nat → Addr) (σ : L2.St) (ρ : List Sl) (Hf H : Hp), Rel G Hf0 H0 α σ ρ Hf H → p ρ → ts E σ H
structure VH (X : Cx) {K : PySem.W.Frag} (G : Gd K) (Hf0 H0 : Hp) (E : Ends) (body : List Stmt) (ts : TS) (p : List Sl → Prop) : Prop where
  pe : PSs X body ts
  run : RunH G Hf0 H0 ts E p
section
variable {X : Cx} {K : PySem.W.Frag} {G : Gd K} {Hf0 H0 : Hp} {E : Ends} {st : Stmt} {rest : List Stmt} {ts us : TS} {t : VTS} {p : List Sl → Prop} {a b : Expr} {ta tb : TE} {s u : VTE} {pos lpos : Pos}
def nxD (p : List Sl → Prop) : VD := { nx := p, rt := fun _ => False }
theorem vh_cons (h : VS X G st ts t) (hr : VH X G Hf0 H0 E rest us p) : VH X G Hf0 H0 E (st :: rest) (tSeq ts us) (fun ρ => t (nxD p) ρ) := by
  refine ⟨pss_cons h.pe hr.pe, fun α σ ρ Hf H R q => ?_⟩
  refine h.sn Hf0 H0 α σ ρ Hf H (nxD p) { E with nx := us E } R ⟨fun α' σ' ρ' Hf' H' R' _ q' => hr.run α' σ' ρ' Hf' H' R' q', fun _ _ _ _ _ _ _ q => q.elim, fun _ _ _ _ _ _ _ q => q.elim, fun _ _ _ _ _ _ _ _ q => q.elim⟩ q
/-- return [a new list of numbers, a number] -/
def ret3 (s u : VTE) : List Sl → Prop := fun ρ => s ρ fun va => u ρ fun vb => ∃ (cs : List Int) (m : Int), va = .nw (cs.map .int) ∧ vb.rd = .int m ∧ cs.length < sizeLine
theorem vh_ret3 (hE : ∀ d l cs m H', D3 H' d l cs m → cs.length < sizeLine → (∃ Hf', Ext G Hf0 H0 Hf' H' ∧ Good G Hf' H') → E.rt (.ref d) H') (ha : VE X G a ta s) (hb : VE X G b tb u)
    (h1 : starEach [a, b] X.env = (false, eval a X.env) :: starEach [b] X.env := by rfl) (h2 : starEach [b] X.env = (false, eval b X.env) :: starEach [] X.env := by rfl) :
    VH X G Hf0 H0 E [.Return (some (.List [a, b] lpos)) pos] (tRet (tLst (tCons ta (tCons tb tNil)))) (ret3 s u) := by
  refine ⟨pss_one (ps_ret (pe_lst (pa_cons ha.pe (pa_cons hb.pe pa_nil h2) h1))), fun α σ ρ Hf H R q => ?_⟩
  refine ha.sn Hf0 H0 α σ ρ Hf H _ _ R q fun va v Hf1 H1 q1 g1 e1 r1 => ?_
  refine hb.sn Hf0 H0 α σ ρ Hf1 H1 _ _ (R.step g1 e1) q1 fun vb w Hf2 H2 q2 g2 e2 r2 => ?_
  obtain ⟨cs, m, rfl, hm, hl⟩ := q2
  obtain ⟨l, vs, rfl, hl0, hlf, hl1, hd⟩ := r1.step e2
  cases r2.int hm
  cases DqL.ints hd
  refine ⟨by rw [sizeLine_eq]; exact (by decide : 2 ≤ 16777216), fun p hp => ?_⟩
  have hl2 : H2 l = some (.lst (cs.map V.int)) := (off_some hl1).2
  have hlp : l ≠ p := fun z => by rw [← z, hl2] at hp; cases hp
  refine hE p l cs m _ ⟨upd_same, by rw [upd_ne hlp]; exact hl2⟩ hl ⟨Hf2, Ext.trans R.good0 (g2.open_ hp) R.ext (Ext.trans R.good (g2.open_ hp) e1 (Ext.trans g1 (g2.open_ hp) e2 (Ext.open_ g2 hp))), g2.open_ hp⟩
end
theorem vh_end {X : Cx} {K : PySem.W.Frag} {G : Gd K} {Hf0 H0 : Hp} {E : Ends} {body : List Stmt} {ts : TS} {p : List Sl → Prop} {α : Nat → Addr} {σ : L2.St} {ρ : List Sl} {Hf H : Hp} (V : VH X G Hf0 H0 E body ts p) (R : Rel G Hf0 H0 α σ ρ Hf H) (hp : p ρ) : ∃ t, PSs X body t ∧ t E σ H :=
  ⟨ts, V.pe, V.run α σ ρ Hf H R hp⟩
/-! ### the deck's maker -/
def spDk {K : PySem.W.Frag} (Fm : Gd K → Prop) : Sp := fun vs H Q _ => ∃ (a : Addr) (ns : List Int), vs = [.ref a] ∧ SqL K H a (ns.map V.int) ∧ ns.length ≤ 63 ∧ ∀ (G : Gd K) (H' : Hp), Fm G → Good G noH H' → Same H H' → Q (.ref G.dk) H'
def gd3 (K : PySem.W.Frag) (d l : Addr) : Gd K := ⟨fun b => b == d || b == l, fun H => ∃ (cs : List Int) (m : Int), H d = some (.lst [.ref l, .int m]) ∧ H l = some (.lst (cs.map V.int)) ∧ cs.length < sizeLine, d⟩
theorem gd3_form {K : PySem.W.Frag} {d l : Addr} : Form3 (gd3 K d l) := ⟨l, fun b => by simp [gd3], fun H => Iff.rfl⟩
theorem gd3_good {K : PySem.W.Frag} {d l : Addr} {H : Hp} {cs : List Int} {m : Int} (h : D3 H d l cs m) (hl : cs.length < sizeLine) : Good (gd3 K d l) noH H := by
  refine ⟨⟨fun H1 H2 e r => ?_, fun H1 b r e => ?_⟩, fun _ _ z => (nomatch z), fun _ _ => rfl, ⟨cs, m, h.a, h.l, hl⟩⟩
  · obtain ⟨cs, m, h1, h2, h3⟩ := r
    exact ⟨cs, m, (e d (by simp [gd3])).trans h1, (e l (by simp [gd3])).trans h2, h3⟩
  · obtain ⟨cs, m, h1, h2, h3⟩ := r
    have e' : b = d ∨ b = l := by simpa [gd3] using e
    rcases e' with rfl | rfl
    · rw [h1]; exact fun z => nomatch z
    · rw [h2]; exact fun z => nomatch z
/-! ### the law's body behind the deck -/
def isTrue : Va → Prop := fun va => va = .fz (.bool true)
def ρL (n : Nat) : List Sl := .un :: .dk :: List.replicate n .un
theorem rel_law {K : PySem.W.Frag} {G : Gd K} {H : Hp} {σ : L2.St} {n : Nat} (g : Good G noH H) (hn : σ.length = n + 2) (hd : σ[1]? = some (some (.ref G.dk))) : Rel G noH H (fun _ => 0) σ (ρL n) noH H := by
  refine ⟨g, g, Ext.refl, by simp [ρL, hn], fun i s h => ?_, fun i j ds es h _ _ => ?_⟩
  · match i, h with
    | 0, h => cases h; trivial
    | 1, h => cases h; exact hd
    | i + 2, h =>
      have : (List.replicate n Sl.un)[i]? = some s := h
      rw [List.getElem?_replicate] at this
      split at this
      · cases this; trivial
      · cases this
  · match i, h with
    | 0, h => cases h
    | 1, h => cases h
    | i + 2, h =>
      have : (List.replicate n Sl.un)[i]? = some (.ow ds) := h
      rw [List.getElem?_replicate] at this
      split at this <;> cases this
theorem law_run {K : PySem.W.Frag} {Fm : Gd K → Prop} {n : Nat} {ts : TS} {t : VTS} {H : Hp} {a : Addr} {ns : List Int} {Q : L2.VK} (hS : SqL K H a (ns.map V.int)) (hl : ns.length ≤ 63) (hQ : ∀ H', Q (.bl true) H') (sn : ∀ G : Gd K, Fm G → SndS G ts t) (h : t { nx := fun _ => False, rt := isTrue } (ρL n)) :
    tSeq (tAsg (tCall (spDk Fm) [] E0 (tCons (tVar 0) tNil)) (gName 1)) ts { nx := fun _ H' => Q .non H', rt := Q } (some (.ref a) :: none :: List.replicate n none) H := by
  refine ⟨_, rfl, a, ns, rfl, hS, hl, fun G H' hG g sm => ?_⟩
  refine sn G hG noH H' (fun _ => 0) _ (ρL n) noH H' { nx := fun _ => False, rt := isTrue } _ (rel_law g (by simp) rfl) ⟨fun _ _ _ _ _ _ _ q => q.elim, fun _ _ _ _ _ _ _ q => q.elim, fun _ _ _ _ _ _ _ q => q.elim, fun va v Hf1 H1 _ _ r1 _ q => ?_⟩ h
  cases q
  cases (show Dq K Hf1 v (.bool true) from r1) with
  | bl => exact hQ H1
theorem law_mk {X : Cx} {K : PySem.W.Frag} {Fm : Gd K → Prop} (hG0 : ∃ G : Gd K, Fm G) {n : Nat} {st : Stmt} {rest : List Stmt} {ts : TS} {t : VTS} {H : Hp} {a : Addr} {ns : List Int} {Q : L2.VK} (h1 : PS X st (tAsg (tCall (spDk Fm) [] E0 (tCons (tVar 0) tNil)) (gName 1))) (VV : ∀ G : Gd K, Fm G → VSs X G rest ts t)
    (hS : SqL K H a (ns.map V.int)) (hl : ns.length ≤ 63) (hQ : ∀ H', Q (.bl true) H') (h : t { nx := fun _ => False, rt := isTrue } (ρL n)) :
    ∃ t, PSs X (st :: rest) t ∧ t { nx := fun _ H' => Q .non H', rt := Q } (some (.ref a) :: none :: List.replicate n none) H := by
  obtain ⟨G, hG⟩ := hG0
  exact ⟨_, pss_cons h1 (VV G hG).pe, law_run hS hl hQ (fun G hG => (VV G hG).sn) h⟩
end TR

namespace TR
open PySem L2 PySem.Spec PyProof.Rows
/-! ### what is shown is short -/
structure Fit (d : PyData) (k e : Nat) : Prop where
  ok : d.showable = true
  nd : d.hasDict = false
  dep : d.depth ≤ e
  len : d.shown.length + 8 ≤ 2000 * k
structure FitL (ds : List PyData) (k e : Nat) : Prop where
  ok : PyData.showableAll ds = true
  nd : PyData.hasDictAll ds = false
  dep : PyData.depthAll ds ≤ e
  len : piled (PyData.shownAll ds) ≤ 2000 * k
theorem Fit.mono {d : PyData} {k k' e e' : Nat} (h : Fit d k e) (hk : k ≤ k') (he : e ≤ e') : Fit d k' e' := ⟨h.ok, h.nd, Nat.le_trans h.dep he, Nat.le_trans h.len (Nat.mul_le_mul_left _ hk)⟩
theorem Fit.int {i : Int} {e : Nat} (h : i.natAbs.log2 < 1920) : Fit (.int i) 1 e := by
  refine ⟨by simpa [PyData.showable] using h, by simp [PyData.hasDict], by simp [PyData.depth], ?_⟩
  have := int_text_length_le (k := 1920) (by decide) h
  simp only [PyData.shown]
  rw [PySem.ofString_length]
  omega
theorem Fit.bool {b : Bool} {e : Nat} : Fit (.bool b) 1 e := by
  refine ⟨by simp [PyData.showable], by simp [PyData.hasDict], by simp [PyData.depth], ?_⟩
  simp only [PyData.shown]
  cases b <;> decide
theorem Fit.none {e : Nat} : Fit .none 1 e := by
  refine ⟨by simp [PyData.showable], by simp [PyData.hasDict], by simp [PyData.depth], ?_⟩
  simp only [PyData.shown]
  decide
theorem FitL.nil {e : Nat} : FitL [] 0 e := ⟨rfl, rfl, Nat.zero_le _, Nat.le_refl _⟩
theorem FitL.cons {d : PyData} {ds : List PyData} {k m e : Nat} (h : Fit d k e) (t : FitL ds m e) : FitL (d :: ds) (k + m) e := by
  refine ⟨by simp [PyData.showableAll, h.ok, t.ok], by simp [PyData.hasDictAll, h.nd, t.nd], by simp only [PyData.depthAll]; exact Nat.max_le.mpr ⟨h.dep, t.dep⟩, ?_⟩
  simp only [PyData.shownAll]
  rw [piled_cons]
  have := h.len
  have := t.len
  omega
theorem FitL.mono {ds : List PyData} {k k' e e' : Nat} (h : FitL ds k e) (hk : k ≤ k') (he : e ≤ e') : FitL ds k' e' := ⟨h.ok, h.nd, Nat.le_trans h.dep he, Nat.le_trans h.len (Nat.mul_le_mul_left _ hk)⟩
theorem FitL.all {ds : List PyData} {k e : Nat} (h : ∀ d ∈ ds, Fit d k e) : FitL ds (ds.length * k) e := by
  induction ds with
  | nil => simpa using FitL.nil
  | cons d ds ih =>
    have := FitL.cons (h d (List.mem_cons_self ..)) (ih fun x hx => h x (List.mem_cons_of_mem _ hx))
    exact this.mono (by rw [List.length_cons, Nat.add_mul]; omega) (Nat.le_refl _)
theorem listText_len (ts : List Str) : (listText ts).length ≤ piled ts + 2 := by
  unfold listText
  rw [strLen_append]
  cases ts with
  | nil => decide
  | cons t r =>
    show (textFrom 1 (("[" : Str) ++ ("" : String) ++ t) r).length + 1 ≤ _
    rw [textFrom_length_pos _ _ _ (by decide), strLen_append, piled_cons]
    have : ((("[" : Str) ++ ("" : String))).length = 1 := by decide
    omega
theorem tupleText_len (ts : List Str) : (tupleText ts).length ≤ piled ts + 4 := by
  unfold tupleText
  rw [strLen_append, strLen_append]
  have e1 : ((("(" : String) : Str)).length = 1 := rfl
  have e3 : (((if ts.length == 1 then ",)" else ")" : String) : Str)).length ≤ 2 := by split <;> decide
  cases ts with
  | nil => decide
  | cons t r =>
    have := join_length_add (t :: r) (by simp)
    rw [e1]
    omega
theorem Fit.list {ds : List PyData} {k e : Nat} (h : FitL ds k e) : Fit (.list ds) (k + 1) (e + 1) := by
  refine ⟨by simpa [PyData.showable] using h.ok, by simpa [PyData.hasDict] using h.nd, by simp only [PyData.depth]; exact Nat.succ_le_succ h.dep, ?_⟩
  simp only [PyData.shown]
  have := listText_len (PyData.shownAll ds)
  have := h.len
  omega
theorem Fit.tuple {ds : List PyData} {k e : Nat} (h : FitL ds k e) : Fit (.tuple ds) (k + 1) (e + 1) := by
  refine ⟨by simpa [PyData.showable] using h.ok, by simpa [PyData.hasDict] using h.nd, by simp only [PyData.depth]; exact Nat.succ_le_succ h.dep, ?_⟩
  simp only [PyData.shown]
  have := tupleText_len (PyData.shownAll ds)
  have := h.len
  omega
theorem Fit.shows {d : PyData} {k e : Nat} (h : Fit d k e) (hk : k ≤ 8000 := by omega) (he : e ≤ 40 := by omega) : shows d := by
  refine ⟨h.ok, h.nd, Nat.le_trans h.dep he, ?_⟩
  have := h.len
  rw [sizeLine_eq]
  omega
theorem log2_of {i : Int} {n : Nat} (h : i.natAbs < 2 ^ n) (hn : n ≤ 1920 := by omega) (h0 : 0 < n := by omega) : i.natAbs.log2 < 1920 := Nat.lt_of_lt_of_le (PySem.Flt.log2_lt_of h0 h) hn
theorem Fit.ints {xs : List Int} {e : Nat} (h : ∀ x ∈ xs, x.natAbs < 2 ^ 1900) : FitL (xs.map .int) xs.length e := by
  have := FitL.all (ds := xs.map PyData.int) (k := 1) (e := e) fun d hd => by
    obtain ⟨x, hx, rfl⟩ := List.mem_map.mp hd
    exact Fit.int (log2_of (h x hx) (by decide) (by decide))
  simpa using this
/-! ### the readings of loops -/
theorem forV_ind {asg : VTG} {body : VTS} {D : VD} (I : List PyData → List Sl → Prop)
    (step : ∀ d ds ρ (N : List Sl → Prop), I (d :: ds) ρ → (∀ ρ', I ds ρ' → N ρ') → asg d ρ fun ρ1 => body { nx := N, rt := D.rt, ct := N, bk := D.nx } ρ1)
    (done : ∀ ρ, I [] ρ → D.nx ρ) : ∀ items ρ, I items ρ → forV asg body items D ρ
  | [], ρ, h => done ρ h
  | d :: ds, ρ, h => step d ds ρ _ h fun ρ' h' => forV_ind I step done ds ρ' h'
theorem compV_ind {asg : VTG} {tt : VTT} {te : VTF} {ρ : List Sl} {Q : List PyData → Prop} (I : List PyData → List PyData → Prop)
    (step : ∀ d ds acc (N : List PyData → Prop), I (d :: ds) acc → (∀ acc', I ds acc' → N acc') → asg d ρ fun ρ2 => tt ρ2 fun b => if b = true then te ρ2 fun y => acc.length < sizeLine ∧ N (acc ++ [y]) else N acc)
    (done : ∀ acc, I [] acc → Q acc) : ∀ items acc, I items acc → compV asg tt te ρ items acc Q
  | [], acc, h => done acc h
  | d :: ds, acc, h => step d ds acc _ h fun acc' h' => compV_ind I step done ds acc' h'
inductive All2 {α β : Type} (P : α → β → Prop) : List α → List β → Prop
  | nil : All2 P [] []
  | cons {a b as bs} : P a b → All2 P as bs → All2 P (a :: as) (b :: bs)
theorem All2.len {α β : Type} {P : α → β → Prop} : ∀ {as : List α} {bs : List β}, All2 P as bs → as.length = bs.length
  | _, _, .nil => rfl
  | _, _, .cons _ t => by rw [List.length_cons, List.length_cons, t.len]
theorem All2.snoc {α β : Type} {P : α → β → Prop} {a : α} {b : β} (h : P a b) : ∀ {as : List α} {bs : List β}, All2 P as bs → All2 P (as ++ [a]) (bs ++ [b])
  | _, _, .nil => .cons h .nil
  | _, _, .cons x t => .cons x (All2.snoc h t)
theorem All2.of_map {α β : Type} {f : α → β} : ∀ {as : List α} {bs : List β}, All2 (fun a b => b = f a) as bs → bs = as.map f
  | _, _, .nil => rfl
  | _, _, .cons x t => by rw [List.map_cons, ← All2.of_map t, x]
/-- a comprehension without a test: each item gives one; P: what an item may give -/
theorem compV_map {asg : VTG} {te : VTF} {ρ : List Sl} {Q : List PyData → Prop} (P : PyData → PyData → Prop) (items : List PyData) (hz : items.length ≤ sizeLine)
    (step : ∀ d ∈ items, ∀ N : PyData → Prop, (∀ y, P d y → N y) → asg d ρ fun ρ2 => te ρ2 N)
    (done : ∀ ys, All2 P items ys → Q ys) : compV asg yesT te ρ items [] Q := by
  have main : ∀ (ds acc pre : List PyData), items = pre ++ ds → All2 P pre acc → compV asg yesT te ρ ds acc Q := by
    intro ds
    induction ds with
    | nil =>
      intro acc pre e f
      rw [List.append_nil] at e
      rw [← e] at f
      exact done acc f
    | cons d ds ih =>
      intro acc pre e f
      refine step d (by rw [e]; simp) _ fun y hy => ?_
      have hl : acc.length = pre.length := f.len.symm
      refine ⟨?_, ih (acc ++ [y]) (pre ++ [d]) (by rw [e]; simp) ?_⟩
      · rw [e, List.length_append, List.length_cons] at hz
        omega
      · exact f.snoc hy
  exact main items [] [] rfl .nil
end TR

namespace TR
open PySem L2 PySem.Spec PyProof.Rows
theorem while_ind {c : VTT} {body : VTS} {D : VD} (I : Nat → List Sl → Prop)
    (step : ∀ k ρ (N : List Sl → Prop), I k ρ → (∀ j ρ', j < k → I j ρ' → N ρ') → c ρ fun b => if b = true then body { nx := N, rt := D.rt, ct := N, bk := D.nx } ρ else D.nx ρ) {k : Nat} {ρ : List Sl} (h : I k ρ) : vWhile c body D ρ := by
  have main : ∀ n k ρ, k < n → I k ρ → whileN c body n D ρ := by
    intro n
    induction n with
    | zero => intro k ρ h; exact absurd h (Nat.not_lt_zero _)
    | succ n ih => exact fun k ρ hk hI => step k ρ _ hI fun j ρ' hj hI' => ih j ρ' (by omega) hI'
  exact ⟨k + 1, main (k + 1) k ρ (Nat.lt_succ_self k) h⟩
theorem perm_erase {α : Type} : ∀ {l : List α} {k : Nat} {a : α}, l[k]? = some a → l.Perm (a :: l.eraseIdx k)
  | [], _, _, h => by simp at h
  | x :: l, 0, a, h => by
    cases h
    exact List.Perm.refl _
  | x :: l, k + 1, a, h => ((perm_erase (l := l) (k := k) (a := a) h).cons x).trans (List.Perm.swap ..)
/-! ### comparable data -/
theorem canLayAll_iff : ∀ {ds : List PyData}, PyData.canLayAll0 ds = true ↔ ∀ d ∈ ds, d.canLay0 = true
  | [] => by simp [PyData.canLayAll0]
  | d :: ds => by rw [PyData.canLayAll0, Bool.and_eq_true, canLayAll_iff (ds := ds)]; simp
theorem depthAll_le {e : Nat} : ∀ {ds : List PyData}, PyData.depthAll ds ≤ e ↔ ∀ d ∈ ds, d.depth ≤ e
  | [] => by simp [PyData.depthAll]
  | d :: ds => by rw [PyData.depthAll, Nat.max_le, depthAll_le (ds := ds)]; simp
theorem shaped_list {ds : List PyData} : SeqAt.shaped (.list ds) = true ↔ ∀ d ∈ ds, d.canLay0 = true ∧ d.depth ≤ 63 := by
  have h1 : (PyData.list ds).canLay0 = PyData.canLayAll0 ds := by simp [PyData.canLay0]
  have h2 : (PyData.list ds).depth = PyData.depthAll ds + 1 := by simp [PyData.depth]
  unfold SeqAt.shaped
  rw [Bool.and_eq_true, h1, canLayAll_iff, decide_eq_true_eq, h2, show PyData.depthAll ds + 1 ≤ 64 ↔ PyData.depthAll ds ≤ 63 by omega, depthAll_le]
  exact ⟨fun h d hd => ⟨h.1 d hd, h.2 d hd⟩, fun h => ⟨fun d hd => (h d hd).1, fun d hd => (h d hd).2⟩⟩
theorem shaped_nil : SeqAt.shaped (.list []) = true := by decide
theorem eqv_nil {ds : List PyData} : PyData.eqv (.list ds) (.list []) = ds.isEmpty := by
  cases ds <;> simp [PyData.eqv, PyData.eqvAll]
/-! ### what stands for what -/
abbrev lI (xs : List Int) : PyData := .list (xs.map .int)
abbrev tI (xs : List Int) : PyData := .tuple (xs.map .int)
/-- a pair of places -/
abbrev pr (p : Nat × Nat) : PyData := .tuple [.int (p.1 : Int), .int (p.2 : Int)]
/-- a town -/
abbrev tw (n : Nat) (es : List (Nat × Nat)) : PyData := .tuple [.int (n : Int), .tuple (es.map pr)]
/-- a value that reads as a sequence -/
def seqVa (va : Va) (ds : List PyData) : Prop := va = .fz (.list ds) ∨ va = .br ds ∨ va = .fz (.tuple ds)
theorem shaped_pr (p : Nat × Nat) : (pr p).canLay0 = true ∧ (pr p).depth ≤ 63 := by
  simp [pr, PyData.canLay0, PyData.canLayAll0, PyData.depth, PyData.depthAll]
theorem log9 {n : Nat} (h : n < 2 ^ 200) : (n : Int).natAbs.log2 < 9000 := by
  rw [Int.natAbs_natCast]
  exact Nat.lt_of_lt_of_le (PySem.Flt.log2_lt_of (by decide) h) (by decide)
theorem log9I {n : Int} (h0 : 0 ≤ n) (h : n < 2 ^ 200) : n.natAbs.log2 < 9000 := by
  obtain ⟨m, rfl⟩ := Int.eq_ofNat_of_zero_le h0
  exact log9 (by exact_mod_cast h)
theorem alike_pr (p q : Nat × Nat) : PySem.W.alike (pr p) (pr q) = true := by
  simp [pr, PySem.W.alike, PySem.W.alikeAll]
theorem sort_pr (es : List (Nat × Nat)) : PySem.W.AllAlike (es.map pr) ∧ PySem.W.Sortable (es.map pr) ∧ ∀ d ∈ es.map pr, d.depth ≤ 40 :=
  ⟨PySem.W.AllAlike.of alike_pr, PySem.W.Sortable.tuples fun b => ⟨_, _, rfl⟩, fun d hd => by
    obtain ⟨p, _, rfl⟩ := List.mem_map.mp hd
    simp [pr, PyData.depth, PyData.depthAll]⟩
theorem perm_map {α β : Type} {f : α → β} {l : List α} {m : List β} (h : m.Perm (l.map f)) : ∃ l' : List α, m = l'.map f ∧ l'.Perm l := by
  generalize e : l.map f = r at h
  induction h generalizing l with
  | nil => exact ⟨[], rfl, by cases l with | nil => exact .nil | cons _ _ => cases e⟩
  | cons x _ ih =>
    cases l with
    | nil => cases e
    | cons a l =>
      cases e
      obtain ⟨l', rfl, hp⟩ := ih rfl
      exact ⟨a :: l', rfl, hp.cons a⟩
  | swap x y m =>
    match l, e with
    | a :: b :: l, e =>
      cases e
      exact ⟨b :: a :: l, rfl, .swap ..⟩
  | trans _ _ ih1 ih2 =>
    obtain ⟨l1, rfl, h1⟩ := ih2 e
    obtain ⟨l2, rfl, h2⟩ := ih1 rfl
    exact ⟨l2, rfl, h2.trans h1⟩
end TR

namespace TR
open PySem L2 PySem.Spec PyProof.Rows
/-! ### x in a list (any data), in a tuple (flat data) -/
def flatD : PyData → Bool
  | .none => true
  | .bool _ => true
  | .int _ => true
  | .str _ => true
  | _ => false
def inD (neg : Bool) (ds : List PyData) (d : PyData) : Bool := if neg then !ds.any (fun z => PyData.eqv z d) else ds.any (fun z => PyData.eqv z d)
def inV (neg : Bool) : Va → Va → (Va → Prop) → Prop := fun x y Q => match y.rd with
  | .list ds => SeqAt.shaped x.rd = true ∧ SeqAt.shaped (.list ds) = true ∧ Q (.fz (.bool (inD neg ds x.rd)))
  | .tuple ds => (flatD x.rd = true ∧ ds.all flatD = true) ∧ Q (.fz (.bool (inD neg ds x.rd)))
  | _ => False
theorem flat_eq {K : PySem.W.Frag} {H : Hp} {v w : V} {d e : PyData} (r : Dq K H v d) (s : Dq K H w e) (hd : flatD d = true) (he : flatD e = true) : L2.eqV v w = PyData.eqv d e := by
  cases r <;> cases s <;> first | rfl | (simp [flatD] at hd he) | simp [L2.eqV, PyData.eqv]
theorem flat_v {K : PySem.W.Frag} {H : Hp} {v : V} {d : PyData} (r : Dq K H v d) (hd : flatD d = true) : flatV v = true := by
  cases r <;> first | rfl | (simp [flatD] at hd)
theorem flat_all {K : PySem.W.Frag} {H : Hp} {w : V} {e : PyData} (s : Dq K H w e) (he : flatD e = true) : ∀ {vs : List V} {ds : List PyData}, DqL K H vs ds → ds.all flatD = true → vs.all flatV = true ∧ L2.inV w vs = ds.any fun z => PyData.eqv z e
  | _, _, .nil, _ => ⟨rfl, rfl⟩
  | _, _, .cons r t, h => by
    rw [List.all_cons, Bool.and_eq_true] at h
    obtain ⟨h1, h2⟩ := flat_all s he t h.2
    refine ⟨by rw [List.all_cons, flat_v r h.1, h1]; rfl, ?_⟩
    unfold L2.inV at h2 ⊢
    rw [List.any_cons, List.any_cons, flat_eq r s h.1 he, h2]
def rInA (K : PySem.W.Frag) (neg : Bool) : R2 := fun x y H Q => (if neg = true then rNotInD K x y H Q else rInD K x y H Q) ∨ rIn K neg x y H Q
theorem op_inA {X : Cx} (hu : X.A.units + 65 < cLine) : OpR X (compareOp .In) (rInA X.K false) := (op_inD hu).or op_in_seq
theorem op_notinA {X : Cx} (hu : X.A.units + 65 < cLine) : OpR X (compareOp .NotIn) (rInA X.K true) := (op_notInD hu).or op_notIn_seq
theorem sr_in {K : PySem.W.Frag} {G : Gd K} {neg : Bool} : SndR2 G (rInA K neg) (inV neg) := by
  intro Hs Hf H x y vx vy Qd Q g rx ry q k
  unfold inV at q
  split at q
  · rename_i ds hd
    obtain ⟨h1, h2, q⟩ := q
    refine .inl ?_
    have dx := (rx.dq g (notDict_shaped h1)).dp
    have dy := ry.dq g (fun kvs z => by rw [hd] at z; cases z)
    rw [hd] at dy
    have fin := k.flat g q (.bl _)
    unfold inD at fin
    cases neg with
    | true =>
      rw [if_pos rfl] at fin ⊢
      exact ⟨_, ds, dx, dy.dp, h1, h2, fin⟩
    | false =>
      rw [if_neg Bool.false_ne_true] at fin ⊢
      exact ⟨_, ds, dx, dy.dp, h1, h2, fin⟩
  · rename_i ds hd
    obtain ⟨⟨h1, h2⟩, q⟩ := q
    obtain ⟨a, xs, rfl, s1, s2⟩ := ry.tup g hd
    have dx := rx.dq g (fun kvs z => by rw [z] at h1; cases h1)
    have s3 : DqL K H xs ds := s2.mono g.sub
    obtain ⟨e1, e2⟩ := flat_all dx h1 s3 h2
    refine .inr ⟨a, xs, rfl, .inr (SqT.mono g.sub s1), flat_v dx h1, e1, ?_⟩
    rw [e2]
    exact k.flat g q (.bl _)
  · exact q.elim
section
variable {X : Cx} {K : PySem.W.Frag} {G : Gd K} {a b : Expr} {ta tb : TE} {s t : VTE} {pos : Pos} {k : Nat}
theorem room65 {A : Around} (hr : Rm k A) : A.units + 65 < cLine := by have := hr.room.un; omega
theorem ve_in (hr : Rm k X.A) (ha : VE X G a ta s) (hb : VE X G b tb t) (hK : X.K = K := by rfl) (hm : behindInMarks .In b = false := by rfl) : VE X G (.Compare a [.In] [b] pos) (tOp (rInA K false) ta tb) (eOp (inV false) s t) := ve_cmp (hK ▸ op_inA (room65 hr)) sr_in ha hb hm
theorem ve_notin (hr : Rm k X.A) (ha : VE X G a ta s) (hb : VE X G b tb t) (hK : X.K = K := by rfl) (hm : behindInMarks .NotIn b = false := by rfl) : VE X G (.Compare a [.NotIn] [b] pos) (tOp (rInA K true) ta tb) (eOp (inV true) s t) := ve_cmp (hK ▸ op_notinA (room65 hr)) sr_in ha hb hm
theorem vt_in (hr : Rm k X.A) (ha : VE X G a ta s) (hb : VE X G b tb t) (hK : X.K = K := by rfl) (hm : behindInMarks .In b = false := by rfl) : VT X G (.Compare a [.In] [b] pos) (tTest (tOp (rInA K false) ta tb)) (bV (eOp (inV false) s t)) := vt_cmp (hK ▸ op_inA (room65 hr)) sr_in ha hb hm
theorem vt_notin (hr : Rm k X.A) (ha : VE X G a ta s) (hb : VE X G b tb t) (hK : X.K = K := by rfl) (hm : behindInMarks .NotIn b = false := by rfl) : VT X G (.Compare a [.NotIn] [b] pos) (tTest (tOp (rInA K true) ta tb)) (bV (eOp (inV true) s t)) := vt_cmp (hK ▸ op_notinA (room65 hr)) sr_in ha hb hm
end
end TR

namespace TR
open PySem L2 PySem.Spec PyProof.Rows
/-! ### a, b, c, .. = e1, e2, e3, .. by way of the tuple: new lists stay the names' own -/
abbrev VTP := VD → List Sl → List Sl → Prop
def nilP : VTP := fun D _ ρp => D.nx ρp
def consP (i : Nat) (s : VTE) (t : VTP) : VTP := fun D ρ ρp => s ρ fun a => setV i ρp a fun ρ1 => t D ρ ρ1
structure VP (X : Cx) {K : PySem.W.Frag} (G : Gd K) (tgs es : List Expr) (ta : TA) (g : TGs) (t : VTP) : Prop where
  pa : PA X es ta
  pg : PGs X tgs g
  sn : ∀ (Hf0 H0 : Hp) (α αp : Nat → Addr) (σ σp : L2.St) (ρ ρp : List Sl) (Hf H : Hp) (D : VD) (k : List V → Hp → Prop), Rel G Hf0 H0 α σ ρ Hf H → Rel G Hf0 H0 αp σp ρp Hf H → t D ρ ρp →
    (∀ (vs : List V) (Hf1 H1 : Hp), vs.length = es.length → Good G Hf1 H1 → Ext G Hf H Hf1 H1 →
      (∀ (Hf2 H2 : Hp) (E : L2.St → Hp → Prop), Good G Hf2 H2 → Ext G Hf1 H1 Hf2 H2 → (∀ α' σ' ρ', Rel G Hf0 H0 α' σ' ρ' Hf2 H2 → D.nx ρ' → E σ' H2) → g vs σp H2 E) → k vs H1) → ta σ H k
section
variable {X : Cx} {K : PySem.W.Frag} {G : Gd K} {tg e : Expr} {tgs es : List Expr} {te : TE} {s : VTE} {ta : TA} {g : TGs} {t : VTP} {pos pt pt2 p : Pos} {x : Str}
theorem vp_nil : VP X G [] [] tNil gNil nilP := by
  refine ⟨pa_nil, pgs_nil, fun Hf0 H0 α αp σ σp ρ ρp Hf H D k R P q kk => ?_⟩
  exact kk [] Hf H rfl R.good Ext.refl fun Hf2 H2 E g2 e2 h => ⟨rfl, h _ _ _ (P.step g2 e2) q⟩
theorem vp_cons (i : Nat) (hg : PG X tg (gName i)) (h : VE X G e te s) (hr : VP X G tgs es ta g t) (h1 : starEach (e :: es) X.env = (false, eval e X.env) :: starEach es X.env := by rfl)
    (h2 : (assignEach (tg :: tgs) X.env).map (·.2) = assign tg X.env :: (assignEach tgs X.env).map (·.2) := by rfl) : VP X G (tg :: tgs) (e :: es) (tCons te ta) (gCons (gName i) g) (consP i s t) := by
  refine ⟨pa_cons h.pe hr.pa h1, pgs_cons hg hr.pg h2, fun Hf0 H0 α αp σ σp ρ ρp Hf H D k R P q kk => ?_⟩
  refine h.sn Hf0 H0 α σ ρ Hf H _ _ R q fun va v Hf1 H1 q1 g1 e1 r1 => ?_
  obtain ⟨α1, ρ1, P1, q2⟩ := P.setV g1 e1 r1 q1
  refine hr.sn Hf0 H0 α α1 σ _ ρ ρ1 Hf1 H1 D _ (R.step g1 e1) P1 q2 fun vs Hf2 H2 hl g2 e2 hG => ?_
  exact kk (v :: vs) Hf2 H2 (by simp [hl]) g2 (Ext.trans R.good g2 e1 e2) fun Hf3 H3 E g3 e3 hE => ⟨v, vs, rfl, hG Hf3 H3 E g3 e3 hE⟩
def vParN (t : VTP) : VTS := fun D ρ => t D ρ ρ
theorem vs_parN {kt k2} (n : Nat) (h : VP X G tgs es ta g t) (hn : es.length = n := by rfl) (hz : n ≤ 16777216 := by decide) (hc : X.calm = true := by rfl) (hK : X.K = K := by rfl)
    (hn1 : (assignEach tgs X.env).length = n := by rfl) (hst : (assignEach tgs X.env).findIdx? (·.1) = none := by rfl)
    (hs : swapsWithSole [.Tuple tgs kt pt] (.Tuple es k2 pt2) pos.line X.env = pure false := by rfl) (hw : swappedStores [.Tuple tgs kt pt] (.Tuple es k2 pt2) X.env = pure none := by rfl)
    (h1 : (assignEach [.Tuple tgs kt pt] X.env).map (·.2) = [assign (.Tuple tgs kt pt) X.env] := by rfl) :
    VS X G (.Assign [.Tuple tgs kt pt] (.Tuple es k2 pt2) pos) (tAsg (tTup ta) (gTup K n g)) (vParN t) := by
  refine ⟨ps_asg (pe_tup h.pa) (hK ▸ pg_tup hc h.pg hn1 hst) hs hw h1, fun Hf0 H0 α σ ρ Hf H D E R ok q => ?_⟩
  refine h.sn Hf0 H0 α α σ σ ρ ρ Hf H D _ R R q fun vs Hf1 H1 hl g1 e1 hG => ?_
  refine ⟨by rw [hl, hn, sizeLine_eq]; exact hz, fun p hp => ?_⟩
  refine ⟨p, vs, rfl, .inl (.inl upd_same), by rw [hl, hn], ?_⟩
  exact hG Hf1 _ _ (g1.open_ hp) (Ext.open_ g1 hp) fun α' σ' ρ' R' q' => ok.nx α' σ' ρ' Hf1 _ R' e1.fz q'
end
end TR

namespace TR
open PySem L2 PySem.Spec PyProof.Rows
/-! ### a check that holds -/
theorem step_if {c : VTT} {t rest : VTS} {D : VD} {ρ : List Sl} (h : ∀ Q : Bool → Prop, Q false → c ρ Q) (q : rest D ρ) : vSeq (vIf c t vNext) rest D ρ := h _ q
theorem last_if {c : VTT} {t : VTS} {D : VD} {ρ : List Sl} (h : ∀ Q : Bool → Prop, Q false → c ρ Q) (q : D.nx ρ) : vIf c t vNext D ρ := h _ q
theorem or_ff {a b : VTT} {ρ : List Sl} (ha : ∀ Q : Bool → Prop, Q false → a ρ Q) (hb : ∀ Q : Bool → Prop, Q false → b ρ Q) (Q : Bool → Prop) (q : Q false) : orT a b ρ Q := ha _ (hb _ q)
def isSeq (d : PyData) : Prop := (∃ ds, d = .list ds) ∨ ∃ ds, d = .tuple ds
theorem repr_ev {va : Va} {d : PyData} {F : Va → Prop} (e : va.rd = d) (hd : isSeq d) (hs : shows d) (q : F (.fz (.str d.shown))) : reprC [va] F := by
  unfold reprC
  rcases hd with ⟨ds, rfl⟩ | ⟨ds, rfl⟩
  · simp only [e]
    exact ⟨hs, q⟩
  · simp only [e]
    exact ⟨hs, q⟩
theorem repr_ev' {A : VTE} {ρ : List Sl} {va : Va} {d : PyData} (hA : ∀ Q : Va → Prop, Q va → A ρ Q) (e : va.rd = d) (hd : isSeq d) (hs : shows d) {F : Va → Prop} (q : F (.fz (.str d.shown))) : calV reprC (consA A nilA) ρ F := by
  unfold calV consA nilA
  exact hA _ (repr_ev e hd hs q)
theorem ne_str (x : Str) (Q : Va → Prop) (q : Q (.fz (.bool false))) : TR.eqV true (.fz (.str x)) (.fz (.str x)) Q := by
  show Q (.fz (.bool (!decide (x = x))))
  rw [decide_eq_true rfl]
  exact q
theorem ne_repr {A B : VTE} {ρ : List Sl} {va vb : Va} {d : PyData} (hs : shows d) (hd : isSeq d) (hA : ∀ Q : Va → Prop, Q va → A ρ Q) (ea : va.rd = d) (hB : ∀ Q : Va → Prop, Q vb → B ρ Q) (eb : vb.rd = d)
    (Q : Bool → Prop) (q : Q false) : bV (eOp (TR.eqV true) (calV reprC (consA A nilA)) (calV reprC (consA B nilA))) ρ Q := by
  unfold bV eOp
  refine repr_ev' hA ea hd hs ?_
  refine repr_ev' hB eb hd hs ?_
  exact ne_str _ _ q
theorem ne_kept {A : VTE} {ρ : List Sl} {va : Va} {d : PyData} {i : Nat} (hs : shows d) (hd : isSeq d) (hA : ∀ Q : Va → Prop, Q va → A ρ Q) (ea : va.rd = d) (hi : ρ[i]? = some (.fz (.str d.shown)))
    (Q : Bool → Prop) (q : Q false) : bV (eOp (TR.eqV true) (calV reprC (consA A nilA)) (varV i)) ρ Q := by
  unfold bV eOp
  refine repr_ev' hA ea hd hs ?_
  unfold varV
  rw [hi]
  exact ne_str _ _ q
theorem step_tup_lc {i : Nat} {src : VTI} {asg : VTG} {te : VTF} {ws : List Nat} {rest : VTS} {D : VD} {ρ : List Sl} (P : PyData → PyData → Prop) (items : List PyData) (hsrc : ∀ Q : List PyData → Prop, Q items → src ρ Q) (hz : items.length ≤ sizeLine)
    (step : ∀ d ∈ items, ∀ N : PyData → Prop, (∀ y, P d y → N y) → asg d (wipeV ρ ws) fun ρ2 => te ρ2 N)
    (done : ∀ ys, All2 P items ys → rest D (ρ.set i (.fz (.tuple ys)))) : vSeq (vSet i (calV tupC (consA (lcV src asg yesT te ws) nilA))) rest D ρ := by
  unfold vSeq vSet calV consA lcV nilA
  refine hsrc _ ?_
  exact compV_map P items hz step done
end TR

namespace Law
open PySem PySem.Spec PyProof.Rows L2 TR
def den_burnt : VTS :=
  (vSeq (vParN (consP 3 (eOp mulV (lstV (consL (frzV (conV (.int 0))) nilL)) (eOp idxV (varV 0) (conV (.int 0)))) (consP 4 (lstV nilL) (consP 5 (lstV (consL (frzV (varV 2)) nilL)) nilP))))
  (vSeq (vSet 6 (lcV (rg1I (consA (eOp idxV (varV 0) (conV (.int 0))) nilA)) (nameG 9) (bV (eOp (eqV true) (varV 9) (varV 2))) (frzV (varV 9)) [9]))
  (vSeq (vWhile (bV (eOp (eqV true) (varV 5) (lstV nilL))) (vSeq (vAppend 4 (pureX (calV tupC (consA (varV 5) nilA))))
  (vSeq (vFor (seqI (eOp idxV (varV 0) (conV (.int 1)))) (tupG 2 (consG (nameG 7) (consG (nameG 8) nilG))) (vIf (andT (bV (eOp (inV false) (varV 7) (varV 5))) (bV (eOp (inV false) (varV 8) (varV 6)))) (vStoreT 3 (eOp addV (eOp idxV (varV 3) (varV 8)) (conV (.int 1))) (varV 8)) (vIf (andT (bV (eOp (inV false) (varV 8) (varV 5))) (bV (eOp (inV false) (varV 7) (varV 6)))) (vStoreT 3 (eOp addV (eOp idxV (varV 3) (varV 7)) (conV (.int 1))) (varV 7)) vNext)))
  (vSeq (vSet 5 (lcV (seqIC (varV 6)) (nameG 9) (bV (eOp (ordV fun i j => decide (i < j)) (eOp idxV (varV 1) (varV 9)) (eOp idxV (varV 3) (varV 9)))) (frzV (varV 9)) [9]))
  (vSet 6 (lcV (seqIC (varV 6)) (nameG 9) (bV (eOp (inV true) (varV 9) (varV 5))) (frzV (varV 9)) [9]))))))
  (vRet (tupV (consL (frzV (calV tupC (consA (varV 4) nilA))) (consL (frzV (calV tupC (consA (varV 6) nilA))) nilL)))))))
def den_is_reduced (sp_burnt : List Va → (Va → Prop) → Prop) : VTS :=
  (vSeq (vIf (bV (calV anyC (consA (lcV (enumIC (varV 1)) (tupG 2 (consG (nameG 3) (consG (nameG 4) nilG))) (bV (eOp (eqV true) (varV 3) (varV 2))) (frzV (eOp (ordV fun i j => decide (i < j)) (varV 4) (conV (.int 0)))) [3, 4]) nilA))) (vRet (conV (.bool false))) vNext)
  (vRet (eOp (eqV false) (eOp idxV (callV sp_burnt (consA (argV (varV 0)) (consA (argV (varV 1)) (consA (argV (varV 2)) nilA)))) (conV (.int 1))) (tupV nilL))))
def den__law_pick (sp__law_next : List Va → (Va → Prop) → Prop) : VTS :=
  (vRet (eOp idxV (varV 1) (callV sp__law_next (consA (argV (varV 0)) (consA (argV (calV lenC (consA (varV 1) nilA))) nilA)))))
def den__law_mixed (sp__law_next : List Va → (Va → Prop) → Prop) : VTS :=
  (vSeq (vPar2 2 3 (calV listC (consA (varV 1) nilA)) (lstV nilL))
  (vSeq (vWhile (bV (eOp (eqV true) (varV 2) (lstV nilL))) (vAppend 3 (popAtX 2 (callV sp__law_next (consA (argV (varV 0)) (consA (argV (calV lenC (consA (varV 2) nilA))) nilA))))))
  (vRetName 3)))
def den__law_pair : VTS :=
  (frzT 1 (frzT 0 (vRet (ifV (bV (eOp (ordV fun i j => decide (i < j)) (varV 0) (varV 1))) (tupV (consL (frzV (varV 0)) (consL (frzV (varV 1)) nilL))) (tupV (consL (frzV (varV 1)) (consL (frzV (varV 0)) nilL)))))))
def den__law_town (sp__law_next : List Va → (Va → Prop) → Prop) (sp__law_mixed : List Va → (Va → Prop) → Prop) (sp__law_pair : List Va → (Va → Prop) → Prop) (sp__law_pick : List Va → (Va → Prop) → Prop) : VTS :=
  (vSeq (vSet 3 (eOp addV (conV (.int 1)) (callV sp__law_next (consA (argV (varV 0)) (consA (argV (varV 1)) nilA)))))
  (vSeq (vSet 4 (callV sp__law_mixed (consA (argV (varV 0)) (consA (argV (lstRgV (rg1V (varV 3)))) nilA))))
  (vSeq (vSet 5 (lcV (rg2I (consA (conV (.int 1)) (consA (varV 3) nilA))) (nameG 9) yesT (frzV (callV sp__law_pair (consA (argV (eOp idxV (varV 4) (varV 9))) (consA (argV (eOp idxV (varV 4) (callV sp__law_next (consA (argV (varV 0)) (consA (argV (varV 9)) nilA))))) nilA)))) [9]))
  (vSeq (vFor (rg1I (consA (callV sp__law_next (consA (argV (varV 0)) (consA (argV (eOp addV (varV 2) (conV (.int 1)))) nilA))) nilA)) (nameG 6) (vSeq (vPar2 7 8 (callV sp__law_next (consA (argV (varV 0)) (consA (argV (varV 3)) nilA))) (callV sp__law_next (consA (argV (varV 0)) (consA (argV (varV 3)) nilA))))
  (vIf (andT (bV (eOp (eqV true) (varV 7) (varV 8))) (bV (eOp (ordV fun i j => decide (i < j)) (calV lenC (consA (varV 5) nilA)) (conV (.int 14))))) (vAppend 5 (pureX (ifV (bV (eOp (eqV false) (callV sp__law_next (consA (argV (varV 0)) (consA (argV (conV (.int 4))) nilA))) (conV (.int 0)))) (callV sp__law_pick (consA (argV (varV 0)) (consA (argV (varV 5)) nilA))) (callV sp__law_pair (consA (argV (varV 7)) (consA (argV (varV 8)) nilA)))))) vNext)))
  (frzT 3 (vRet (tupV (consL (frzV (varV 3)) (consL (frzV (calV tupC (consA (calV sortC (consA (varV 5) nilA)) nilA))) nilL)))))))))
def den__law_degrees : VTS :=
  (vSeq (vSet 1 (eOp mulV (lstV (consL (frzV (conV (.int 0))) nilL)) (eOp idxV (varV 0) (conV (.int 0)))))
  (vSeq (vFor (seqI (eOp idxV (varV 0) (conV (.int 1)))) (tupG 2 (consG (nameG 2) (consG (nameG 3) nilG))) (vSeq (vStoreT 1 (eOp addV (eOp idxV (varV 1) (varV 2)) (conV (.int 1))) (varV 2))
  (vStoreT 1 (eOp addV (eOp idxV (varV 1) (varV 3)) (conV (.int 1))) (varV 3))))
  (vRetName 1)))
def den__law_fire : VTS :=
  (vSeq (vParN (consP 4 (lstV (consL (frzV (varV 1)) nilL)) (consP 5 (lstV nilL) (consP 6 (lstV nilL) (consP 7 (eOp mulV (lstV (consL (frzV (conV (.int 0))) nilL)) (eOp idxV (varV 0) (conV (.int 0)))) (consP 8 (eOp mulV (lstV (consL (frzV (conV (.int 0))) nilL)) (eOp idxV (varV 0) (conV (.int 0)))) nilP))))))
  (vSeq (vFor (rg1I (consA (calV lenC (consA (eOp idxV (varV 0) (conV (.int 1))) nilA)) nilA)) (nameG 9) (vSeq (vSet 10 (lstV nilL))
  (vSeq (vFor (enumI (eOp idxV (varV 0) (conV (.int 1)))) (tupG 2 (consG (nameG 11) (consG (tupG 2 (consG (nameG 12) (consG (nameG 13) nilG))) nilG))) (vIf (andT (bV (eOp (inV true) (varV 11) (varV 5))) (bV (eOp (eqV true) (eOp (inV false) (varV 12) (varV 4)) (eOp (inV false) (varV 13) (varV 4))))) (frzT 11 (vAppend 10 (pureX (varV 11)))) vNext))
  (vSeq (vIf (bV (eOp (eqV false) (varV 10) (lstV nilL))) vBreak vNext)
  (vSeq (vSet 11 (eOp idxV (varV 10) (negV (conV (.int 1)))))
  (vSeq (vAsg (eOp idxV (eOp idxV (varV 0) (conV (.int 1))) (varV 11)) (tupG 2 (consG (nameG 12) (consG (nameG 13) nilG))))
  (vSeq (frzT 12 (frzT 13 (vSet 14 (ifV (bV (eOp (inV false) (varV 12) (varV 4))) (varV 13) (varV 12)))))
  (vSeq (frzT 11 (vAppend 5 (pureX (varV 11))))
  (vSeq (vStoreT 7 (eOp addV (eOp idxV (varV 7) (varV 14)) (conV (.int 1))) (varV 14))
  (vIf (orT (andT (bV (eOp (isNV false) (varV 3) (conV .none))) (bV (eOp (ordV fun i j => decide (j < i)) (eOp idxV (varV 7) (varV 14)) (eOp idxV (varV 2) (varV 14))))) (andT (bV (eOp (isNV true) (varV 3) (conV .none))) (bV (eOp (inV false) (varV 11) (varV 3))))) (vSeq (frzT 14 (vAppend 4 (pureX (varV 14))))
  (vSeq (frzT 11 (vAppend 6 (pureX (varV 11))))
  (vStoreT 8 (eOp subV (eOp idxV (varV 7) (varV 14)) (conV (.int 1))) (varV 14)))) vNext))))))))))
  (frzT 4 (vRet (tupV (consL (frzV (calV tupC (consA (varV 5) nilA))) (consL (frzV (calV tupC (consA (calV sortC (consA (varV 6) nilA)) nilA))) (consL (frzV (calV tupC (consA (varV 8) nilA))) (consL (frzV (varV 4)) nilL)))))))))
def den__law_any_fire (sp__law_pick : List Va → (Va → Prop) → Prop) : VTS :=
  (vSeq (vPar3 4 5 6 (lstV (consL (frzV (varV 2)) nilL)) (lstV nilL) (eOp mulV (lstV (consL (frzV (conV (.int 0))) nilL)) (eOp idxV (varV 1) (conV (.int 0)))))
  (vSeq (vFor (rg1I (consA (calV lenC (consA (eOp idxV (varV 1) (conV (.int 1))) nilA)) nilA)) (nameG 7) (vSeq (vSet 8 (lstV nilL))
  (vSeq (vFor (enumI (eOp idxV (varV 1) (conV (.int 1)))) (tupG 2 (consG (nameG 9) (consG (tupG 2 (consG (nameG 10) (consG (nameG 11) nilG))) nilG))) (vIf (andT (bV (eOp (inV true) (varV 9) (varV 5))) (bV (eOp (eqV true) (eOp (inV false) (varV 10) (varV 4)) (eOp (inV false) (varV 11) (varV 4))))) (frzT 9 (vAppend 8 (pureX (varV 9)))) vNext))
  (vSeq (vIf (bV (eOp (eqV false) (varV 8) (lstV nilL))) vBreak vNext)
  (vSeq (vSet 9 (callV sp__law_pick (consA (argV (varV 0)) (consA (argV (varV 8)) nilA))))
  (vSeq (vAsg (eOp idxV (eOp idxV (varV 1) (conV (.int 1))) (varV 9)) (tupG 2 (consG (nameG 10) (consG (nameG 11) nilG))))
  (vSeq (frzT 10 (frzT 11 (vSet 12 (ifV (bV (eOp (inV false) (varV 10) (varV 4))) (varV 11) (varV 10)))))
  (vSeq (frzT 9 (vAppend 5 (pureX (varV 9))))
  (vSeq (vStoreT 6 (eOp addV (eOp idxV (varV 6) (varV 12)) (conV (.int 1))) (varV 12))
  (vIf (bV (eOp (ordV fun i j => decide (j < i)) (eOp idxV (varV 6) (varV 12)) (eOp idxV (varV 3) (varV 12)))) (frzT 12 (vAppend 4 (pureX (varV 12)))) vNext))))))))))
  (vRet (calV sortC (consA (varV 4) nilA)))))
def den__law_any_tree (sp__law_mixed : List Va → (Va → Prop) → Prop) : VTS :=
  (vSeq (vPar2 2 3 (lstRgV (rg1V (eOp idxV (varV 1) (conV (.int 0))))) (lstV nilL))
  (vSeq (vFor (seqI (callV sp__law_mixed (consA (argV (varV 0)) (consA (argV (lstRgV (rg1V (calV lenC (consA (eOp idxV (varV 1) (conV (.int 1))) nilA))))) nilA)))) (nameG 4) (vSeq (vParN (consP 5 (eOp idxV (varV 2) (eOp idxV (eOp idxV (eOp idxV (varV 1) (conV (.int 1))) (varV 4)) (conV (.int 0)))) (consP 6 (eOp idxV (varV 2) (eOp idxV (eOp idxV (eOp idxV (varV 1) (conV (.int 1))) (varV 4)) (conV (.int 1)))) nilP)))
  (vIf (bV (eOp (eqV true) (varV 5) (varV 6))) (vSeq (frzT 4 (vAppend 3 (pureX (varV 4))))
  (vSet 2 (lcV (seqIC (varV 2)) (nameG 7) yesT (frzV (ifV (bV (eOp (eqV false) (varV 7) (varV 6))) (varV 5) (varV 7))) [7]))) vNext)))
  (vRet (calV tupC (consA (calV sortC (consA (varV 3) nilA)) nilA)))))
def den__law_deck (ns : List Int) : List Sl → Prop :=
  (fun ρ => (vPar2 1 2 (lcV (seqIC (scutV 0 ns noneO (someO (conV (.int 63))))) (nameG 3) yesT (frzV (calV absC (consA (varV 3) nilA))) [3]) (eOp addV (conV (.int 16245)) (calV lenC (consA (scutV 0 ns noneO (someO (conV (.int 63)))) nilA)))) (nxD (fun ρ => (frzT 1 (vFor (seqI (varV 1)) (nameG 3) (vSet 2 (eOp modV (eOp addV (eOp addV (eOp mulV (varV 2) (conV (.int 48271))) (eOp modV (varV 3) (conV (.int 2147483629)))) (conV (.int 7))) (conV (.int 2147483647)))))) (nxD (ret3 (revV (lcV (seqIC (varV 1)) (nameG 3) (bV (eOp (ordV fun i j => decide (j ≤ i)) (varV 3) (eOp powV (conV (.int 10)) (conV (.int 9))))) (frzV (varV 3)) [3])) (varV 2))) ρ)) ρ)

def den_law (sp__law_town : List Va → (Va → Prop) → Prop) (sp__law_pick : List Va → (Va → Prop) → Prop) (sp__law_degrees : List Va → (Va → Prop) → Prop) (sp__law_next : List Va → (Va → Prop) → Prop) (sp__law_any_tree : List Va → (Va → Prop) → Prop) (sp__law_fire : List Va → (Va → Prop) → Prop) (sp__law_any_fire : List Va → (Va → Prop) → Prop) (sp_is_reduced : List Va → (Va → Prop) → Prop) (sp_burnt : List Va → (Va → Prop) → Prop) : VTS :=
  (vSeq (vFor (rg1I (consA (conV (.int 4)) nilA)) (nameG 2) (vSeq (vSet 3 (callV sp__law_town (consA (argV (varV 1)) (consA (argV (callV sp__law_pick (consA (argV (varV 1)) (consA (argV (lstV (consL (frzV (conV (.int 1))) (consL (frzV (conV (.int 4))) (consL (frzV (conV (.int 5))) (consL (frzV (conV (.int 8))) nilL)))))) nilA)))) (consA (argV (callV sp__law_pick (consA (argV (varV 1)) (consA (argV (lstV (consL (frzV (conV (.int 0))) (consL (frzV (conV (.int 3))) (consL (frzV (conV (.int 6))) nilL))))) nilA)))) nilA)))))
  (vSeq (vSet 4 (callV sp__law_degrees (consA (argV (varV 3)) nilA)))
  (vSeq (vSet 5 (callV sp__law_next (consA (argV (varV 1)) (consA (argV (eOp idxV (varV 3) (conV (.int 0)))) nilA))))
  (vFor (rg1I (consA (conV (.int 3)) nilA)) (nameG 6) (vSeq (vSet 7 (calV tupC (consA (lcV (seqIC (varV 4)) (nameG 17) yesT (frzV (callV sp__law_next (consA (argV (varV 1)) (consA (argV (eOp addV (conV (.int 1)) (calV max2C (consA (conV (.int 1)) (consA (eOp subV (varV 17) (callV sp__law_next (consA (argV (varV 1)) (consA (argV (conV (.int 2))) nilA)))) nilA))))) nilA)))) [17]) nilA)))
  (vSeq (vIf (bV (eOp (eqV false) (callV sp__law_next (consA (argV (varV 1)) (consA (argV (conV (.int 2))) nilA))) (conV (.int 0)))) (vSeq (vSet 8 (callV sp__law_any_tree (consA (argV (varV 1)) (consA (argV (varV 3)) nilA))))
  (vSeq (vSet 7 (eOp idxV (callV sp__law_fire (consA (argV (varV 3)) (consA (argV (varV 5)) (consA (argV (conV .none)) (consA (argV (varV 8)) nilA))))) (conV (.int 2))))
  (vSeq (vSet 9 (callV sp__law_next (consA (argV (varV 1)) (consA (argV (eOp idxV (varV 3) (conV (.int 0)))) nilA))))
  (vSet 7 (eOp addV (eOp addV (slV (varV 7) noneO (someO (varV 9))) (tupV (consL (frzV (eOp addV (eOp idxV (varV 7) (varV 9)) (callV sp__law_next (consA (argV (varV 1)) (consA (argV (conV (.int 3))) nilA))))) nilL))) (slV (varV 7) (someO (eOp addV (varV 9) (conV (.int 1)))) noneO)))))) vNext)
  (vSeq (vPar2 10 11 (calV reprC (consA (lstV (consL (frzV (varV 3)) (consL (frzV (varV 5)) (consL (frzV (varV 7)) nilL)))) nilA)) (lstRgV (rg1V (eOp idxV (varV 3) (conV (.int 0))))))
  (vSeq (vSet 12 (callV sp__law_any_fire (consA (argV (varV 1)) (consA (argV (varV 3)) (consA (argV (varV 5)) (consA (argV (varV 7)) nilA))))))
  (vSeq (vFor (rg1I (consA (conV (.int 2)) nilA)) (nameG 13) (vIf (bV (eOp (eqV true) (callV sp__law_any_fire (consA (argV (varV 1)) (consA (argV (varV 3)) (consA (argV (varV 5)) (consA (argV (varV 7)) nilA))))) (varV 12))) (vRet (conV (.bool false))) vNext))
  (vSeq (vIf (bV (eOp (eqV true) (calV sortC (consA (eOp idxV (callV sp__law_fire (consA (argV (varV 3)) (consA (argV (varV 5)) (consA (argV (varV 7)) (consA (argV (conV .none)) nilA))))) (conV (.int 3))) nilA)) (varV 12))) (vRet (conV (.bool false))) vNext)
  (vSeq (vSet 14 (eOp (eqV false) (varV 12) (varV 11)))
  (vSeq (vSet 15 (lstV (consL (frzV (callV sp_is_reduced (consA (argV (varV 3)) (consA (argV (varV 7)) (consA (argV (varV 5)) nilA))))) (consL (frzV (callKV 0 3 sp_is_reduced [0, 1, 2] nilA (consA (argV (varV 3)) (consA (argV (varV 7)) (consA (argV (varV 5)) nilA))))) nilL))))
  (vSeq (vIf (bV (eOp (eqV true) (calV reprC (consA (varV 15) nilA)) (calV reprC (consA (lstV (consL (frzV (varV 14)) (consL (frzV (varV 14)) nilL))) nilA)))) (vRet (conV (.bool false))) vNext)
  (vSeq (vSet 16 (calV tupC (consA (lcV (seqIC (varV 11)) (nameG 9) (bV (eOp (inV true) (varV 9) (varV 12))) (frzV (varV 9)) [9]) nilA)))
  (vSeq (vSet 15 (lstV (consL (frzV (eOp idxV (callV sp_burnt (consA (argV (varV 3)) (consA (argV (varV 7)) (consA (argV (varV 5)) nilA)))) (conV (.int 1)))) (consL (frzV (eOp idxV (callKV 0 3 sp_burnt [0, 1, 2] nilA (consA (argV (varV 3)) (consA (argV (varV 7)) (consA (argV (varV 5)) nilA)))) (conV (.int 1)))) nilL))))
  (vSeq (vIf (bV (eOp (eqV true) (calV reprC (consA (varV 15) nilA)) (calV reprC (consA (lstV (consL (frzV (varV 16)) (consL (frzV (varV 16)) nilL))) nilA)))) (vRet (conV (.bool false))) vNext)
  (vIf (bV (eOp (eqV true) (calV reprC (consA (lstV (consL (frzV (varV 3)) (consL (frzV (varV 5)) (consL (frzV (varV 7)) nilL)))) nilA)) (varV 10))) (vRet (conV (.bool false))) vNext))))))))))))))))))
  (vRet (conV (.bool true))))

end Law

namespace Law
open PySem PySem.Spec PyProof.Rows L2 TR
def topS (i : Nat) : Stmt := PySem.Challenge.pw_townroads_k40_whole_fire_in_other_orders.main.body.getD i (.Pass ⟨0, 0, 0, 0⟩)
abbrev s_burnt : Stmt := topS 1
theorem sc_burnt : FnScope ["town", "purse", "root", "heat", "lots", "fresh", "cold", "a", "b", "house"] ["town", "purse", "root"] (defScope s_burnt) := ⟨rfl, rfl, rfl, by decide +kernel, rfl, by decide +kernel, by decide +kernel⟩
theorem bi_burnt {K : PySem.W.Frag} {f : Addr} {fd : FuncData} (F : Fun K "burnt" "burnt" s_burnt f fd) : Binds K fd ["town", "purse", "root"] [] := F.binds fun _ _ _ _ _ _ us hl => match us, hl with | [_, _, _], _ => rfl
abbrev s_is_reduced : Stmt := topS 2
theorem sc_is_reduced : FnScope ["town", "purse", "root", "house", "item"] ["town", "purse", "root"] (defScope s_is_reduced) := ⟨rfl, rfl, rfl, by decide +kernel, rfl, by decide +kernel, by decide +kernel⟩
theorem bi_is_reduced {K : PySem.W.Frag} {f : Addr} {fd : FuncData} (F : Fun K "is_reduced" "is_reduced" s_is_reduced f fd) : Binds K fd ["town", "purse", "root"] [] := F.binds fun _ _ _ _ _ _ us hl => match us, hl with | [_, _, _], _ => rfl
abbrev s__law_deck : Stmt := topS 4
theorem sc__law_deck : FnScope ["script", "cells", "mixed", "cell"] ["script"] (defScope s__law_deck) := ⟨rfl, rfl, rfl, by decide +kernel, rfl, by decide +kernel, by decide +kernel⟩
theorem bi__law_deck {K : PySem.W.Frag} {f : Addr} {fd : FuncData} (F : Fun K "_law_deck" "_law_deck" s__law_deck f fd) : Binds K fd ["script"] [] := F.binds fun _ _ _ _ _ _ us hl => match us, hl with | [_], _ => rfl
abbrev s__law_next : Stmt := topS 5
theorem sc__law_next : FnScope ["deck", "many", "rest"] ["deck", "many"] (defScope s__law_next) := ⟨rfl, rfl, rfl, by decide +kernel, rfl, by decide +kernel, by decide +kernel⟩
theorem bi__law_next {K : PySem.W.Frag} {f : Addr} {fd : FuncData} (F : Fun K "_law_next" "_law_next" s__law_next f fd) : Binds K fd ["deck", "many"] [] := F.binds fun _ _ _ _ _ _ us hl => match us, hl with | [_, _], _ => rfl
abbrev s__law_pick : Stmt := topS 6
theorem sc__law_pick : FnScope ["deck", "some"] ["deck", "some"] (defScope s__law_pick) := ⟨rfl, rfl, rfl, by decide +kernel, rfl, by decide +kernel, by decide +kernel⟩
theorem bi__law_pick {K : PySem.W.Frag} {f : Addr} {fd : FuncData} (F : Fun K "_law_pick" "_law_pick" s__law_pick f fd) : Binds K fd ["deck", "some"] [] := F.binds fun _ _ _ _ _ _ us hl => match us, hl with | [_, _], _ => rfl
abbrev s__law_mixed : Stmt := topS 7
theorem sc__law_mixed : FnScope ["deck", "some", "left", "found"] ["deck", "some"] (defScope s__law_mixed) := ⟨rfl, rfl, rfl, by decide +kernel, rfl, by decide +kernel, by decide +kernel⟩
theorem bi__law_mixed {K : PySem.W.Frag} {f : Addr} {fd : FuncData} (F : Fun K "_law_mixed" "_law_mixed" s__law_mixed f fd) : Binds K fd ["deck", "some"] [] := F.binds fun _ _ _ _ _ _ us hl => match us, hl with | [_, _], _ => rfl
abbrev s__law_pair : Stmt := topS 8
theorem sc__law_pair : FnScope ["one", "other"] ["one", "other"] (defScope s__law_pair) := ⟨rfl, rfl, rfl, by decide +kernel, rfl, by decide +kernel, by decide +kernel⟩
theorem bi__law_pair {K : PySem.W.Frag} {f : Addr} {fd : FuncData} (F : Fun K "_law_pair" "_law_pair" s__law_pair f fd) : Binds K fd ["one", "other"] [] := F.binds fun _ _ _ _ _ _ us hl => match us, hl with | [_, _], _ => rfl
abbrev s__law_town : Stmt := topS 9
theorem sc__law_town : FnScope ["deck", "most", "more", "houses", "names", "pairs", "step", "one", "other", "k"] ["deck", "most", "more"] (defScope s__law_town) := ⟨rfl, rfl, rfl, by decide +kernel, rfl, by decide +kernel, by decide +kernel⟩
theorem bi__law_town {K : PySem.W.Frag} {f : Addr} {fd : FuncData} (F : Fun K "_law_town" "_law_town" s__law_town f fd) : Binds K fd ["deck", "most", "more"] [] := F.binds fun _ _ _ _ _ _ us hl => match us, hl with | [_, _, _], _ => rfl
abbrev s__law_degrees : Stmt := topS 10
theorem sc__law_degrees : FnScope ["town", "found", "one", "other"] ["town"] (defScope s__law_degrees) := ⟨rfl, rfl, rfl, by decide +kernel, rfl, by decide +kernel, by decide +kernel⟩
theorem bi__law_degrees {K : PySem.W.Frag} {f : Addr} {fd : FuncData} (F : Fun K "_law_degrees" "_law_degrees" s__law_degrees f fd) : Binds K fd ["town"] [] := F.binds fun _ _ _ _ _ _ us hl => match us, hl with | [_], _ => rfl
abbrev s__law_fire : Stmt := topS 11
theorem sc__law_fire : FnScope ["town", "root", "purse", "tree", "burning", "gone", "taken", "counts", "coins", "step", "open_ones", "k", "one", "other", "house"] ["town", "root", "purse", "tree"] (defScope s__law_fire) := ⟨rfl, rfl, rfl, by decide +kernel, rfl, by decide +kernel, by decide +kernel⟩
theorem bi__law_fire {K : PySem.W.Frag} {f : Addr} {fd : FuncData} (F : Fun K "_law_fire" "_law_fire" s__law_fire f fd) : Binds K fd ["town", "root", "purse", "tree"] [] := F.binds fun _ _ _ _ _ _ us hl => match us, hl with | [_, _, _, _], _ => rfl
abbrev s__law_any_fire : Stmt := topS 12
theorem sc__law_any_fire : FnScope ["deck", "town", "root", "purse", "burning", "gone", "counts", "step", "some", "k", "one", "other", "house"] ["deck", "town", "root", "purse"] (defScope s__law_any_fire) := ⟨rfl, rfl, rfl, by decide +kernel, rfl, by decide +kernel, by decide +kernel⟩
theorem bi__law_any_fire {K : PySem.W.Frag} {f : Addr} {fd : FuncData} (F : Fun K "_law_any_fire" "_law_any_fire" s__law_any_fire f fd) : Binds K fd ["deck", "town", "root", "purse"] [] := F.binds fun _ _ _ _ _ _ us hl => match us, hl with | [_, _, _, _], _ => rfl
abbrev s__law_any_tree : Stmt := topS 13
theorem sc__law_any_tree : FnScope ["deck", "town", "parts", "found", "k", "one", "other", "part"] ["deck", "town"] (defScope s__law_any_tree) := ⟨rfl, rfl, rfl, by decide +kernel, rfl, by decide +kernel, by decide +kernel⟩
theorem bi__law_any_tree {K : PySem.W.Frag} {f : Addr} {fd : FuncData} (F : Fun K "_law_any_tree" "_law_any_tree" s__law_any_tree f fd) : Binds K fd ["deck", "town"] [] := F.binds fun _ _ _ _ _ _ us hl => match us, hl with | [_, _], _ => rfl
abbrev s_law : Stmt := topS 14
theorem sc_law : FnScope ["script", "deck", "step", "town", "degrees", "root", "again", "purse", "tree", "house", "kept", "houses", "first", "turn", "due", "told", "never", "count"] ["script"] (defScope s_law) := ⟨rfl, rfl, rfl, by decide +kernel, rfl, by decide +kernel, by decide +kernel⟩
theorem bi_law {K : PySem.W.Frag} {f : Addr} {fd : FuncData} (F : Fun K "law" "law" s_law f fd) : Binds K fd ["script"] [] := F.binds fun _ _ _ _ _ _ us hl => match us, hl with | [_], _ => rfl
theorem kb0_is_reduced {K : PySem.W.Frag} {f : Addr} {fd : FuncData} (F : Fun K "is_reduced" "is_reduced" s_is_reduced f fd) : KB fd ["town", "purse", "root"] ["town", "purse", "root"] 0 [0, 1, 2] := by
  obtain ⟨oc, od, kV, doc, pm, an, cdv, ct, osl, rfl, _, _⟩ := F.ex
  exact fun s us ws h1 h2 => match us, ws, h1, h2 with | [], [_, _, _], _, _ => .of_eq rfl
theorem kb1_burnt {K : PySem.W.Frag} {f : Addr} {fd : FuncData} (F : Fun K "burnt" "burnt" s_burnt f fd) : KB fd ["town", "purse", "root"] ["town", "purse", "root"] 0 [0, 1, 2] := by
  obtain ⟨oc, od, kV, doc, pm, an, cdv, ct, osl, rfl, _, _⟩ := F.ex
  exact fun s us ws h1 h2 => match us, ws, h1, h2 with | [], [_, _, _], _, _ => .of_eq rfl
structure Fx (K : PySem.W.Frag) (mg : Str → Option Value) : Prop where
  e_burnt : ∃ f fd, Fun K "burnt" "burnt" s_burnt f fd ∧ mg "burnt" = some (.ref f)
  e_is_reduced : ∃ f fd, Fun K "is_reduced" "is_reduced" s_is_reduced f fd ∧ mg "is_reduced" = some (.ref f)
  e__law_deck : ∃ f fd, Fun K "_law_deck" "_law_deck" s__law_deck f fd ∧ mg "_law_deck" = some (.ref f)
  e__law_next : ∃ f fd, Fun K "_law_next" "_law_next" s__law_next f fd ∧ mg "_law_next" = some (.ref f)
  e__law_pick : ∃ f fd, Fun K "_law_pick" "_law_pick" s__law_pick f fd ∧ mg "_law_pick" = some (.ref f)
  e__law_mixed : ∃ f fd, Fun K "_law_mixed" "_law_mixed" s__law_mixed f fd ∧ mg "_law_mixed" = some (.ref f)
  e__law_pair : ∃ f fd, Fun K "_law_pair" "_law_pair" s__law_pair f fd ∧ mg "_law_pair" = some (.ref f)
  e__law_town : ∃ f fd, Fun K "_law_town" "_law_town" s__law_town f fd ∧ mg "_law_town" = some (.ref f)
  e__law_degrees : ∃ f fd, Fun K "_law_degrees" "_law_degrees" s__law_degrees f fd ∧ mg "_law_degrees" = some (.ref f)
  e__law_fire : ∃ f fd, Fun K "_law_fire" "_law_fire" s__law_fire f fd ∧ mg "_law_fire" = some (.ref f)
  e__law_any_fire : ∃ f fd, Fun K "_law_any_fire" "_law_any_fire" s__law_any_fire f fd ∧ mg "_law_any_fire" = some (.ref f)
  e__law_any_tree : ∃ f fd, Fun K "_law_any_tree" "_law_any_tree" s__law_any_tree f fd ∧ mg "_law_any_tree" = some (.ref f)
  e_law : ∃ f fd, Fun K "law" "law" s_law f fd ∧ mg "law" = some (.ref f)
  b_len : mg "len" = none
  b_range : mg "range" = none
  b_tuple : mg "tuple" = none
  b_repr : mg "repr" = none
  b_list : mg "list" = none
  b_enumerate : mg "enumerate" = none
  b_sorted : mg "sorted" = none
  b_abs : mg "abs" = none
  b_max : mg "max" = none
  b_any : mg "any" = none
theorem facts_mk {K : PySem.W.Frag} {h : Heap} {mg : Str → Option Value} (X : K.In h) (Gm : h.Ns mainGlobals mg)
    {f0 : Addr} {od0 an0 : Option Addr} {sl0 : Array (Option Value)} {oc0 kV0 dc0 pm0 cd0 ct0 : Value} (a0 : PySem.W.nsIn K mainGlobals "burnt" = some (some (.ref f0))) (l0 : K.lookup f0 = some ⟨oc0, od0, .func (PySem.W.fnOf "burnt" "burnt" (defArgs s_burnt) (defBody s_burnt) (defScope s_burnt) .none kV0 dc0 pm0 an0 cd0 ct0), sl0⟩) (c0 : PySem.W.codeIn K cd0 "burnt" = true) (k0 : PySem.W.keepIn K (.ref f0) = true)
    {f1 : Addr} {od1 an1 : Option Addr} {sl1 : Array (Option Value)} {oc1 kV1 dc1 pm1 cd1 ct1 : Value} (a1 : PySem.W.nsIn K mainGlobals "is_reduced" = some (some (.ref f1))) (l1 : K.lookup f1 = some ⟨oc1, od1, .func (PySem.W.fnOf "is_reduced" "is_reduced" (defArgs s_is_reduced) (defBody s_is_reduced) (defScope s_is_reduced) .none kV1 dc1 pm1 an1 cd1 ct1), sl1⟩) (c1 : PySem.W.codeIn K cd1 "is_reduced" = true) (k1 : PySem.W.keepIn K (.ref f1) = true)
    {f2 : Addr} {od2 an2 : Option Addr} {sl2 : Array (Option Value)} {oc2 kV2 dc2 pm2 cd2 ct2 : Value} (a2 : PySem.W.nsIn K mainGlobals "_law_deck" = some (some (.ref f2))) (l2 : K.lookup f2 = some ⟨oc2, od2, .func (PySem.W.fnOf "_law_deck" "_law_deck" (defArgs s__law_deck) (defBody s__law_deck) (defScope s__law_deck) .none kV2 dc2 pm2 an2 cd2 ct2), sl2⟩) (c2 : PySem.W.codeIn K cd2 "_law_deck" = true) (k2 : PySem.W.keepIn K (.ref f2) = true)
    {f3 : Addr} {od3 an3 : Option Addr} {sl3 : Array (Option Value)} {oc3 kV3 dc3 pm3 cd3 ct3 : Value} (a3 : PySem.W.nsIn K mainGlobals "_law_next" = some (some (.ref f3))) (l3 : K.lookup f3 = some ⟨oc3, od3, .func (PySem.W.fnOf "_law_next" "_law_next" (defArgs s__law_next) (defBody s__law_next) (defScope s__law_next) .none kV3 dc3 pm3 an3 cd3 ct3), sl3⟩) (c3 : PySem.W.codeIn K cd3 "_law_next" = true) (k3 : PySem.W.keepIn K (.ref f3) = true)
    {f4 : Addr} {od4 an4 : Option Addr} {sl4 : Array (Option Value)} {oc4 kV4 dc4 pm4 cd4 ct4 : Value} (a4 : PySem.W.nsIn K mainGlobals "_law_pick" = some (some (.ref f4))) (l4 : K.lookup f4 = some ⟨oc4, od4, .func (PySem.W.fnOf "_law_pick" "_law_pick" (defArgs s__law_pick) (defBody s__law_pick) (defScope s__law_pick) .none kV4 dc4 pm4 an4 cd4 ct4), sl4⟩) (c4 : PySem.W.codeIn K cd4 "_law_pick" = true) (k4 : PySem.W.keepIn K (.ref f4) = true)
    {f5 : Addr} {od5 an5 : Option Addr} {sl5 : Array (Option Value)} {oc5 kV5 dc5 pm5 cd5 ct5 : Value} (a5 : PySem.W.nsIn K mainGlobals "_law_mixed" = some (some (.ref f5))) (l5 : K.lookup f5 = some ⟨oc5, od5, .func (PySem.W.fnOf "_law_mixed" "_law_mixed" (defArgs s__law_mixed) (defBody s__law_mixed) (defScope s__law_mixed) .none kV5 dc5 pm5 an5 cd5 ct5), sl5⟩) (c5 : PySem.W.codeIn K cd5 "_law_mixed" = true) (k5 : PySem.W.keepIn K (.ref f5) = true)
    {f6 : Addr} {od6 an6 : Option Addr} {sl6 : Array (Option Value)} {oc6 kV6 dc6 pm6 cd6 ct6 : Value} (a6 : PySem.W.nsIn K mainGlobals "_law_pair" = some (some (.ref f6))) (l6 : K.lookup f6 = some ⟨oc6, od6, .func (PySem.W.fnOf "_law_pair" "_law_pair" (defArgs s__law_pair) (defBody s__law_pair) (defScope s__law_pair) .none kV6 dc6 pm6 an6 cd6 ct6), sl6⟩) (c6 : PySem.W.codeIn K cd6 "_law_pair" = true) (k6 : PySem.W.keepIn K (.ref f6) = true)
    {f7 : Addr} {od7 an7 : Option Addr} {sl7 : Array (Option Value)} {oc7 kV7 dc7 pm7 cd7 ct7 : Value} (a7 : PySem.W.nsIn K mainGlobals "_law_town" = some (some (.ref f7))) (l7 : K.lookup f7 = some ⟨oc7, od7, .func (PySem.W.fnOf "_law_town" "_law_town" (defArgs s__law_town) (defBody s__law_town) (defScope s__law_town) .none kV7 dc7 pm7 an7 cd7 ct7), sl7⟩) (c7 : PySem.W.codeIn K cd7 "_law_town" = true) (k7 : PySem.W.keepIn K (.ref f7) = true)
    {f8 : Addr} {od8 an8 : Option Addr} {sl8 : Array (Option Value)} {oc8 kV8 dc8 pm8 cd8 ct8 : Value} (a8 : PySem.W.nsIn K mainGlobals "_law_degrees" = some (some (.ref f8))) (l8 : K.lookup f8 = some ⟨oc8, od8, .func (PySem.W.fnOf "_law_degrees" "_law_degrees" (defArgs s__law_degrees) (defBody s__law_degrees) (defScope s__law_degrees) .none kV8 dc8 pm8 an8 cd8 ct8), sl8⟩) (c8 : PySem.W.codeIn K cd8 "_law_degrees" = true) (k8 : PySem.W.keepIn K (.ref f8) = true)
    {f9 : Addr} {od9 an9 : Option Addr} {sl9 : Array (Option Value)} {oc9 kV9 dc9 pm9 cd9 ct9 : Value} (a9 : PySem.W.nsIn K mainGlobals "_law_fire" = some (some (.ref f9))) (l9 : K.lookup f9 = some ⟨oc9, od9, .func (PySem.W.fnOf "_law_fire" "_law_fire" (defArgs s__law_fire) (defBody s__law_fire) (defScope s__law_fire) .none kV9 dc9 pm9 an9 cd9 ct9), sl9⟩) (c9 : PySem.W.codeIn K cd9 "_law_fire" = true) (k9 : PySem.W.keepIn K (.ref f9) = true)
    {f10 : Addr} {od10 an10 : Option Addr} {sl10 : Array (Option Value)} {oc10 kV10 dc10 pm10 cd10 ct10 : Value} (a10 : PySem.W.nsIn K mainGlobals "_law_any_fire" = some (some (.ref f10))) (l10 : K.lookup f10 = some ⟨oc10, od10, .func (PySem.W.fnOf "_law_any_fire" "_law_any_fire" (defArgs s__law_any_fire) (defBody s__law_any_fire) (defScope s__law_any_fire) .none kV10 dc10 pm10 an10 cd10 ct10), sl10⟩) (c10 : PySem.W.codeIn K cd10 "_law_any_fire" = true) (k10 : PySem.W.keepIn K (.ref f10) = true)
    {f11 : Addr} {od11 an11 : Option Addr} {sl11 : Array (Option Value)} {oc11 kV11 dc11 pm11 cd11 ct11 : Value} (a11 : PySem.W.nsIn K mainGlobals "_law_any_tree" = some (some (.ref f11))) (l11 : K.lookup f11 = some ⟨oc11, od11, .func (PySem.W.fnOf "_law_any_tree" "_law_any_tree" (defArgs s__law_any_tree) (defBody s__law_any_tree) (defScope s__law_any_tree) .none kV11 dc11 pm11 an11 cd11 ct11), sl11⟩) (c11 : PySem.W.codeIn K cd11 "_law_any_tree" = true) (k11 : PySem.W.keepIn K (.ref f11) = true)
    {f12 : Addr} {od12 an12 : Option Addr} {sl12 : Array (Option Value)} {oc12 kV12 dc12 pm12 cd12 ct12 : Value} (a12 : PySem.W.nsIn K mainGlobals "law" = some (some (.ref f12))) (l12 : K.lookup f12 = some ⟨oc12, od12, .func (PySem.W.fnOf "law" "law" (defArgs s_law) (defBody s_law) (defScope s_law) .none kV12 dc12 pm12 an12 cd12 ct12), sl12⟩) (c12 : PySem.W.codeIn K cd12 "law" = true) (k12 : PySem.W.keepIn K (.ref f12) = true)
    (z_len : PySem.W.nsIn K mainGlobals "len" = some none)
    (z_range : PySem.W.nsIn K mainGlobals "range" = some none)
    (z_tuple : PySem.W.nsIn K mainGlobals "tuple" = some none)
    (z_repr : PySem.W.nsIn K mainGlobals "repr" = some none)
    (z_list : PySem.W.nsIn K mainGlobals "list" = some none)
    (z_enumerate : PySem.W.nsIn K mainGlobals "enumerate" = some none)
    (z_sorted : PySem.W.nsIn K mainGlobals "sorted" = some none)
    (z_abs : PySem.W.nsIn K mainGlobals "abs" = some none)
    (z_max : PySem.W.nsIn K mainGlobals "max" = some none)
    (z_any : PySem.W.nsIn K mainGlobals "any" = some none) :
    Fx K mg :=
  ⟨⟨_, _, fun_mk (st := s_burnt) l0 c0 k0, PySem.W.mg_of X Gm a0⟩, ⟨_, _, fun_mk (st := s_is_reduced) l1 c1 k1, PySem.W.mg_of X Gm a1⟩, ⟨_, _, fun_mk (st := s__law_deck) l2 c2 k2, PySem.W.mg_of X Gm a2⟩, ⟨_, _, fun_mk (st := s__law_next) l3 c3 k3, PySem.W.mg_of X Gm a3⟩, ⟨_, _, fun_mk (st := s__law_pick) l4 c4 k4, PySem.W.mg_of X Gm a4⟩, ⟨_, _, fun_mk (st := s__law_mixed) l5 c5 k5, PySem.W.mg_of X Gm a5⟩, ⟨_, _, fun_mk (st := s__law_pair) l6 c6 k6, PySem.W.mg_of X Gm a6⟩, ⟨_, _, fun_mk (st := s__law_town) l7 c7 k7, PySem.W.mg_of X Gm a7⟩, ⟨_, _, fun_mk (st := s__law_degrees) l8 c8 k8, PySem.W.mg_of X Gm a8⟩, ⟨_, _, fun_mk (st := s__law_fire) l9 c9 k9, PySem.W.mg_of X Gm a9⟩, ⟨_, _, fun_mk (st := s__law_any_fire) l10 c10 k10, PySem.W.mg_of X Gm a10⟩, ⟨_, _, fun_mk (st := s__law_any_tree) l11 c11 k11, PySem.W.mg_of X Gm a11⟩, ⟨_, _, fun_mk (st := s_law) l12 c12 k12, PySem.W.mg_of X Gm a12⟩, PySem.W.mg_none_of X Gm z_len, PySem.W.mg_none_of X Gm z_range, PySem.W.mg_none_of X Gm z_tuple, PySem.W.mg_none_of X Gm z_repr, PySem.W.mg_none_of X Gm z_list, PySem.W.mg_none_of X Gm z_enumerate, PySem.W.mg_none_of X Gm z_sorted, PySem.W.mg_none_of X Gm z_abs, PySem.W.mg_none_of X Gm z_max, PySem.W.mg_none_of X Gm z_any⟩
end Law

namespace Law
open PySem PySem.Spec PyProof.Rows L2 TR
theorem ok_burnt {P : Program} {w : World} {mg : Str → Option Value} {base : Heap} {K : PySem.W.Frag} {Fm : Gd K → Prop} (T : Fx K mg) {sp : List Va → (Va → Prop) → Prop} (ar : ∀ vas Q, sp vas Q → vas.length = 3)
    (hsp : ∀ vas Q, sp vas Q → den_burnt { nx := fun _ => Q (.fz .none), rt := Q } (ρ0 ["town", "purse", "root", "heat", "lots", "fresh", "cold", "a", "b", "house"] vas)) : HasV P w mg base Fm 1 s_burnt "burnt" ["town", "purse", "root"] sp := by
  obtain ⟨f, fd, F, m⟩ := T.e_burnt
  refine ⟨⟨f, fd, F, m, fnV_ok F sc_burnt ar fun cdv A outer s H E hr => ?_⟩⟩
  exact body_mk (fun G hG => ⟨_,
    (vss_cons (vs_parN 3 (vp_cons 3 (vg_name (G := G) 3 sc_burnt.nd).pe (ve_mul (ve_lst (vl_cons ve_int vl_nil)) (ve_ix (ve_var 0) ve_int)) (vp_cons 4 (vg_name (G := G) 4 sc_burnt.nd).pe (ve_lst vl_nil) (vp_cons 5 (vg_name (G := G) 5 sc_burnt.nd).pe (ve_lst (vl_cons (ve_var 2) vl_nil)) vp_nil))))
      (vss_cons (vs_setLc 6 [("house", 9)] sc_burnt.nd rfl (vic_of (vi_range1 T.b_range (va_cons (ve_ix (ve_var 0) ve_int) va_nil))) (fun _ _ _ _ _ => (vg_name 9 sc_burnt.nd)) (fun _ _ _ _ _ => (vts_one (vt_ne hr (ve_var 9) (ve_var 2)))) (fun _ _ _ _ _ => (ve_var 9)))
      (vss_cons (vs_while (vt_ne hr (ve_var 5) (ve_lst vl_nil)) (vss_cons (vs_append 4 (ve_var 4) (vx_pure (ve_tuple T.b_tuple (ve_var 5))))
      (vss_cons (vs_for (vi_seq (ve_ix (ve_var 0) ve_int)) (vg_tup 2 (vgs_cons (vg_name 7 sc_burnt.nd) (vgs_cons (vg_name 8 sc_burnt.nd) vgs_nil))) (vss_one (vs_if (vt_w (vw_and (vt_in hr (ve_var 7) (ve_var 5)) (vw_and1 (vt_in hr (ve_var 8) (ve_var 6))))) (vss_one (vs_store 3 (ve_var 3) (ve_add (ve_ix (ve_var 3) (ve_var 8)) ve_int) (ve_var 8))) (vss_one (vs_if (vt_w (vw_and (vt_in hr (ve_var 8) (ve_var 5)) (vw_and1 (vt_in hr (ve_var 7) (ve_var 6))))) (vss_one (vs_store 3 (ve_var 3) (ve_add (ve_ix (ve_var 3) (ve_var 7)) ve_int) (ve_var 7))) vss_nil)))))
      (vss_cons (vs_set 5 (ve_lc [("house", 9)] sc_burnt.nd rfl (vic_seq (ve_var 6)) (fun _ _ _ _ _ => (vg_name 9 sc_burnt.nd)) (fun _ _ _ _ _ => (vts_one (vt_lt (ve_ix (ve_var 1) (ve_var 9)) (ve_ix (ve_var 3) (ve_var 9))))) (fun _ _ _ _ _ => (ve_var 9))) sc_burnt.nd)
      (vss_one (vs_setLc 6 [("house", 9)] sc_burnt.nd rfl (vic_seq (ve_var 6)) (fun _ _ _ _ _ => (vg_name 9 sc_burnt.nd)) (fun _ _ _ _ _ => (vts_one (vt_notin hr (ve_var 9) (ve_var 5)))) (fun _ _ _ _ _ => (ve_var 9))))))))
      (vss_one (vs_ret (ve_tup (vl_cons (ve_tuple T.b_tuple (ve_var 4)) (vl_cons (ve_tuple T.b_tuple (ve_var 6)) vl_nil))))))))⟩) hsp
theorem ok_is_reduced {P : Program} {w : World} {mg : Str → Option Value} {base : Heap} {K : PySem.W.Frag} {Fm : Gd K → Prop} (T : Fx K mg) {sp_burnt : List Va → (Va → Prop) → Prop} (h_burnt : HasV P w mg base Fm 1 s_burnt "burnt" ["town", "purse", "root"] sp_burnt) {sp : List Va → (Va → Prop) → Prop} (ar : ∀ vas Q, sp vas Q → vas.length = 3)
    (hsp : ∀ vas Q, sp vas Q → den_is_reduced sp_burnt { nx := fun _ => Q (.fz .none), rt := Q } (ρ0 ["town", "purse", "root", "house", "item"] vas)) : HasV P w mg base Fm 2 s_is_reduced "is_reduced" ["town", "purse", "root"] sp := by
  obtain ⟨f_burnt, fd_burnt, F_burnt, m_burnt, V_burnt⟩ := h_burnt.ex
  obtain ⟨f, fd, F, m⟩ := T.e_is_reduced
  refine ⟨⟨f, fd, F, m, fnV_ok F sc_is_reduced ar fun cdv A outer s H E hr => ?_⟩⟩
  exact body_mk (fun G hG => ⟨_,
    (vss_cons (vs_if (vt_val (ve_any T.b_any (ve_lc [("house", 3), ("item", 4)] sc_is_reduced.nd rfl (vic_enum T.b_enumerate (ve_var 1)) (fun _ _ _ _ _ => (vg_tup 2 (vgs_cons (vg_name 3 sc_is_reduced.nd) (vgs_cons (vg_name 4 sc_is_reduced.nd) vgs_nil)))) (fun _ _ _ _ _ => (vts_one (vt_ne hr (ve_var 3) (ve_var 2)))) (fun _ _ _ _ _ => (ve_lt (ve_var 4) ve_int))))) (vss_one (vs_ret ve_bl)) vss_nil)
      (vss_one (vs_ret (ve_eq hr (ve_ix (ve_call hG V_burnt (hr.mono (by decide)) m_burnt F_burnt.kp (bi_burnt F_burnt) (va_arg (ve_var 0) (va_arg (ve_var 1) (va_arg (ve_var 2) va_nil)))) ve_int) (ve_tup vl_nil)))))⟩) hsp
theorem ok__law_pick {P : Program} {w : World} {mg : Str → Option Value} {base : Heap} {K : PySem.W.Frag} {Fm : Gd K → Prop} (T : Fx K mg) {sp__law_next : List Va → (Va → Prop) → Prop} (h__law_next : HasV P w mg base Fm 1 s__law_next "_law_next" ["deck", "many"] sp__law_next) {sp : List Va → (Va → Prop) → Prop} (ar : ∀ vas Q, sp vas Q → vas.length = 2)
    (hsp : ∀ vas Q, sp vas Q → den__law_pick sp__law_next { nx := fun _ => Q (.fz .none), rt := Q } (ρ0 ["deck", "some"] vas)) : HasV P w mg base Fm 2 s__law_pick "_law_pick" ["deck", "some"] sp := by
  obtain ⟨f__law_next, fd__law_next, F__law_next, m__law_next, V__law_next⟩ := h__law_next.ex
  obtain ⟨f, fd, F, m⟩ := T.e__law_pick
  refine ⟨⟨f, fd, F, m, fnV_ok F sc__law_pick ar fun cdv A outer s H E hr => ?_⟩⟩
  exact body_mk (fun G hG => ⟨_,
    (vss_one (vs_ret (ve_ix (ve_var 1) (ve_call hG V__law_next (hr.mono (by decide)) m__law_next F__law_next.kp (bi__law_next F__law_next) (va_arg (ve_var 0) (va_arg (ve_len T.b_len (ve_var 1)) va_nil))))))⟩) hsp
theorem ok__law_mixed {P : Program} {w : World} {mg : Str → Option Value} {base : Heap} {K : PySem.W.Frag} {Fm : Gd K → Prop} (T : Fx K mg) {sp__law_next : List Va → (Va → Prop) → Prop} (h__law_next : HasV P w mg base Fm 1 s__law_next "_law_next" ["deck", "many"] sp__law_next) {sp : List Va → (Va → Prop) → Prop} (ar : ∀ vas Q, sp vas Q → vas.length = 2)
    (hsp : ∀ vas Q, sp vas Q → den__law_mixed sp__law_next { nx := fun _ => Q (.fz .none), rt := Q } (ρ0 ["deck", "some", "left", "found"] vas)) : HasV P w mg base Fm 2 s__law_mixed "_law_mixed" ["deck", "some"] sp := by
  obtain ⟨f__law_next, fd__law_next, F__law_next, m__law_next, V__law_next⟩ := h__law_next.ex
  obtain ⟨f, fd, F, m⟩ := T.e__law_mixed
  refine ⟨⟨f, fd, F, m, fnV_ok F sc__law_mixed ar fun cdv A outer s H E hr => ?_⟩⟩
  exact body_mk (fun G hG => ⟨_,
    (vss_cons (vs_par2 2 3 (ve_list T.b_list (ve_var 1)) (ve_lst vl_nil) sc__law_mixed.nd)
      (vss_cons (vs_while (vt_ne hr (ve_var 2) (ve_lst vl_nil)) (vss_one (vs_append 3 (ve_var 3) (vx_popAt 2 (ve_var 2) (ve_call hG V__law_next (hr.mono (by decide)) m__law_next F__law_next.kp (bi__law_next F__law_next) (va_arg (ve_var 0) (va_arg (ve_len T.b_len (ve_var 2)) va_nil)))))))
      (vss_one (vs_retName 3 (ve_var 3)))))⟩) hsp
theorem ok__law_pair {P : Program} {w : World} {mg : Str → Option Value} {base : Heap} {K : PySem.W.Frag} {Fm : Gd K → Prop} (T : Fx K mg) {sp : List Va → (Va → Prop) → Prop} (ar : ∀ vas Q, sp vas Q → vas.length = 2)
    (hsp : ∀ vas Q, sp vas Q → den__law_pair { nx := fun _ => Q (.fz .none), rt := Q } (ρ0 ["one", "other"] vas)) : HasV P w mg base Fm 1 s__law_pair "_law_pair" ["one", "other"] sp := by
  obtain ⟨f, fd, F, m⟩ := T.e__law_pair
  refine ⟨⟨f, fd, F, m, fnV_ok F sc__law_pair ar fun cdv A outer s H E hr => ?_⟩⟩
  exact body_mk (fun G hG => ⟨_,
    (vss_one (vs_frz 1 (vs_frz 0 (vs_ret (ve_if (vt_lt (ve_var 0) (ve_var 1)) (ve_tup (vl_cons (ve_var 0) (vl_cons (ve_var 1) vl_nil))) (ve_tup (vl_cons (ve_var 1) (vl_cons (ve_var 0) vl_nil))))))))⟩) hsp
theorem ok__law_town {P : Program} {w : World} {mg : Str → Option Value} {base : Heap} {K : PySem.W.Frag} {Fm : Gd K → Prop} (T : Fx K mg) {sp__law_next : List Va → (Va → Prop) → Prop} (h__law_next : HasV P w mg base Fm 1 s__law_next "_law_next" ["deck", "many"] sp__law_next) {sp__law_mixed : List Va → (Va → Prop) → Prop} (h__law_mixed : HasV P w mg base Fm 2 s__law_mixed "_law_mixed" ["deck", "some"] sp__law_mixed) {sp__law_pair : List Va → (Va → Prop) → Prop} (h__law_pair : HasV P w mg base Fm 1 s__law_pair "_law_pair" ["one", "other"] sp__law_pair) {sp__law_pick : List Va → (Va → Prop) → Prop} (h__law_pick : HasV P w mg base Fm 2 s__law_pick "_law_pick" ["deck", "some"] sp__law_pick) {sp : List Va → (Va → Prop) → Prop} (ar : ∀ vas Q, sp vas Q → vas.length = 3)
    (hsp : ∀ vas Q, sp vas Q → den__law_town sp__law_next sp__law_mixed sp__law_pair sp__law_pick { nx := fun _ => Q (.fz .none), rt := Q } (ρ0 ["deck", "most", "more", "houses", "names", "pairs", "step", "one", "other", "k"] vas)) : HasV P w mg base Fm 3 s__law_town "_law_town" ["deck", "most", "more"] sp := by
  obtain ⟨f__law_next, fd__law_next, F__law_next, m__law_next, V__law_next⟩ := h__law_next.ex
  obtain ⟨f__law_mixed, fd__law_mixed, F__law_mixed, m__law_mixed, V__law_mixed⟩ := h__law_mixed.ex
  obtain ⟨f__law_pair, fd__law_pair, F__law_pair, m__law_pair, V__law_pair⟩ := h__law_pair.ex
  obtain ⟨f__law_pick, fd__law_pick, F__law_pick, m__law_pick, V__law_pick⟩ := h__law_pick.ex
  obtain ⟨f, fd, F, m⟩ := T.e__law_town
  refine ⟨⟨f, fd, F, m, fnV_ok F sc__law_town ar fun cdv A outer s H E hr => ?_⟩⟩
  exact body_mk (fun G hG => ⟨_,
    (vss_cons (vs_set 3 (ve_add ve_int (ve_call hG V__law_next (hr.mono (by decide)) m__law_next F__law_next.kp (bi__law_next F__law_next) (va_arg (ve_var 0) (va_arg (ve_var 1) va_nil)))) sc__law_town.nd)
      (vss_cons (vs_set 4 (ve_call hG V__law_mixed (hr.mono (by decide)) m__law_mixed F__law_mixed.kp (bi__law_mixed F__law_mixed) (va_arg (ve_var 0) (va_arg (ve_listRg T.b_list (vr_1 T.b_range (ve_var 3))) va_nil))) sc__law_town.nd)
      (vss_cons (vs_setLc 5 [("k", 9)] sc__law_town.nd rfl (vic_of (vi_range2 T.b_range (va_cons ve_int (va_cons (ve_var 3) va_nil)))) (fun _ _ _ _ _ => (vg_name 9 sc__law_town.nd)) (fun _ _ _ _ _ => vts_nil) (fun _ _ _ _ _ => (ve_call hG V__law_pair (hr.mono (by decide)) m__law_pair F__law_pair.kp (bi__law_pair F__law_pair) (va_arg (ve_ix (ve_var 4) (ve_var 9)) (va_arg (ve_ix (ve_var 4) (ve_call hG V__law_next (hr.mono (by decide)) m__law_next F__law_next.kp (bi__law_next F__law_next) (va_arg (ve_var 0) (va_arg (ve_var 9) va_nil)))) va_nil)))))
      (vss_cons (vs_for (vi_range1 T.b_range (va_cons (ve_call hG V__law_next (hr.mono (by decide)) m__law_next F__law_next.kp (bi__law_next F__law_next) (va_arg (ve_var 0) (va_arg (ve_add (ve_var 2) ve_int) va_nil))) va_nil)) (vg_name 6 sc__law_town.nd) (vss_cons (vs_par2 7 8 (ve_call hG V__law_next (hr.mono (by decide)) m__law_next F__law_next.kp (bi__law_next F__law_next) (va_arg (ve_var 0) (va_arg (ve_var 3) va_nil))) (ve_call hG V__law_next (hr.mono (by decide)) m__law_next F__law_next.kp (bi__law_next F__law_next) (va_arg (ve_var 0) (va_arg (ve_var 3) va_nil))) sc__law_town.nd)
      (vss_one (vs_if (vt_w (vw_and (vt_ne hr (ve_var 7) (ve_var 8)) (vw_and1 (vt_lt (ve_len T.b_len (ve_var 5)) ve_int)))) (vss_one (vs_append 5 (ve_var 5) (vx_pure (ve_if (vt_eq hr (ve_call hG V__law_next (hr.mono (by decide)) m__law_next F__law_next.kp (bi__law_next F__law_next) (va_arg (ve_var 0) (va_arg ve_int va_nil))) ve_int) (ve_call hG V__law_pick (hr.mono (by decide)) m__law_pick F__law_pick.kp (bi__law_pick F__law_pick) (va_arg (ve_var 0) (va_arg (ve_var 5) va_nil))) (ve_call hG V__law_pair (hr.mono (by decide)) m__law_pair F__law_pair.kp (bi__law_pair F__law_pair) (va_arg (ve_var 7) (va_arg (ve_var 8) va_nil))))))) vss_nil))))
      (vss_one (vs_frz 3 (vs_ret (ve_tup (vl_cons (ve_var 3) (vl_cons (ve_tuple T.b_tuple (ve_sorted hr T.b_sorted (ve_var 5))) vl_nil))))))))))⟩) hsp
theorem ok__law_degrees {P : Program} {w : World} {mg : Str → Option Value} {base : Heap} {K : PySem.W.Frag} {Fm : Gd K → Prop} (T : Fx K mg) {sp : List Va → (Va → Prop) → Prop} (ar : ∀ vas Q, sp vas Q → vas.length = 1)
    (hsp : ∀ vas Q, sp vas Q → den__law_degrees { nx := fun _ => Q (.fz .none), rt := Q } (ρ0 ["town", "found", "one", "other"] vas)) : HasV P w mg base Fm 1 s__law_degrees "_law_degrees" ["town"] sp := by
  obtain ⟨f, fd, F, m⟩ := T.e__law_degrees
  refine ⟨⟨f, fd, F, m, fnV_ok F sc__law_degrees ar fun cdv A outer s H E hr => ?_⟩⟩
  exact body_mk (fun G hG => ⟨_,
    (vss_cons (vs_set 1 (ve_mul (ve_lst (vl_cons ve_int vl_nil)) (ve_ix (ve_var 0) ve_int)) sc__law_degrees.nd)
      (vss_cons (vs_for (vi_seq (ve_ix (ve_var 0) ve_int)) (vg_tup 2 (vgs_cons (vg_name 2 sc__law_degrees.nd) (vgs_cons (vg_name 3 sc__law_degrees.nd) vgs_nil))) (vss_cons (vs_store 1 (ve_var 1) (ve_add (ve_ix (ve_var 1) (ve_var 2)) ve_int) (ve_var 2))
      (vss_one (vs_store 1 (ve_var 1) (ve_add (ve_ix (ve_var 1) (ve_var 3)) ve_int) (ve_var 3)))))
      (vss_one (vs_retName 1 (ve_var 1)))))⟩) hsp
theorem ok__law_fire {P : Program} {w : World} {mg : Str → Option Value} {base : Heap} {K : PySem.W.Frag} {Fm : Gd K → Prop} (T : Fx K mg) {sp : List Va → (Va → Prop) → Prop} (ar : ∀ vas Q, sp vas Q → vas.length = 4)
    (hsp : ∀ vas Q, sp vas Q → den__law_fire { nx := fun _ => Q (.fz .none), rt := Q } (ρ0 ["town", "root", "purse", "tree", "burning", "gone", "taken", "counts", "coins", "step", "open_ones", "k", "one", "other", "house"] vas)) : HasV P w mg base Fm 1 s__law_fire "_law_fire" ["town", "root", "purse", "tree"] sp := by
  obtain ⟨f, fd, F, m⟩ := T.e__law_fire
  refine ⟨⟨f, fd, F, m, fnV_ok F sc__law_fire ar fun cdv A outer s H E hr => ?_⟩⟩
  exact body_mk (fun G hG => ⟨_,
    (vss_cons (vs_parN 5 (vp_cons 4 (vg_name (G := G) 4 sc__law_fire.nd).pe (ve_lst (vl_cons (ve_var 1) vl_nil)) (vp_cons 5 (vg_name (G := G) 5 sc__law_fire.nd).pe (ve_lst vl_nil) (vp_cons 6 (vg_name (G := G) 6 sc__law_fire.nd).pe (ve_lst vl_nil) (vp_cons 7 (vg_name (G := G) 7 sc__law_fire.nd).pe (ve_mul (ve_lst (vl_cons ve_int vl_nil)) (ve_ix (ve_var 0) ve_int)) (vp_cons 8 (vg_name (G := G) 8 sc__law_fire.nd).pe (ve_mul (ve_lst (vl_cons ve_int vl_nil)) (ve_ix (ve_var 0) ve_int)) vp_nil))))))
      (vss_cons (vs_for (vi_range1 T.b_range (va_cons (ve_len T.b_len (ve_ix (ve_var 0) ve_int)) va_nil)) (vg_name 9 sc__law_fire.nd) (vss_cons (vs_set 10 (ve_lst vl_nil) sc__law_fire.nd)
      (vss_cons (vs_for (vi_enum T.b_enumerate (ve_ix (ve_var 0) ve_int)) (vg_tup 2 (vgs_cons (vg_name 11 sc__law_fire.nd) (vgs_cons (vg_tup 2 (vgs_cons (vg_name 12 sc__law_fire.nd) (vgs_cons (vg_name 13 sc__law_fire.nd) vgs_nil))) vgs_nil))) (vss_one (vs_if (vt_w (vw_and (vt_notin hr (ve_var 11) (ve_var 5)) (vw_and1 (vt_ne hr (ve_in hr (ve_var 12) (ve_var 4)) (ve_in hr (ve_var 13) (ve_var 4)))))) (vss_one (vs_frz 11 (vs_append 10 (ve_var 10) (vx_pure (ve_var 11))))) vss_nil)))
      (vss_cons (vs_if (vt_eq hr (ve_var 10) (ve_lst vl_nil)) (vss_one vs_break) vss_nil)
      (vss_cons (vs_set 11 (ve_ix (ve_var 10) (ve_neg ve_int)) sc__law_fire.nd)
      (vss_cons (vs_asg (ve_ix (ve_ix (ve_var 0) ve_int) (ve_var 11)) (vg_tup 2 (vgs_cons (vg_name 12 sc__law_fire.nd) (vgs_cons (vg_name 13 sc__law_fire.nd) vgs_nil))))
      (vss_cons (vs_frz 12 (vs_frz 13 (vs_set 14 (ve_if (vt_in hr (ve_var 12) (ve_var 4)) (ve_var 13) (ve_var 12)) sc__law_fire.nd)))
      (vss_cons (vs_frz 11 (vs_append 5 (ve_var 5) (vx_pure (ve_var 11))))
      (vss_cons (vs_store 7 (ve_var 7) (ve_add (ve_ix (ve_var 7) (ve_var 14)) ve_int) (ve_var 14))
      (vss_one (vs_if (vt_w (vw_or (vt_w (vw_and (vt_isN (ve_var 3) ve_non) (vw_and1 (vt_gt (ve_ix (ve_var 7) (ve_var 14)) (ve_ix (ve_var 2) (ve_var 14)))))) (vw_or1 (vt_w (vw_and (vt_notN (ve_var 3) ve_non) (vw_and1 (vt_in hr (ve_var 11) (ve_var 3)))))))) (vss_cons (vs_frz 14 (vs_append 4 (ve_var 4) (vx_pure (ve_var 14))))
      (vss_cons (vs_frz 11 (vs_append 6 (ve_var 6) (vx_pure (ve_var 11))))
      (vss_one (vs_store 8 (ve_var 8) (ve_sub (ve_ix (ve_var 7) (ve_var 14)) ve_int) (ve_var 14))))) vss_nil)))))))))))
      (vss_one (vs_frz 4 (vs_ret (ve_tup (vl_cons (ve_tuple T.b_tuple (ve_var 5)) (vl_cons (ve_tuple T.b_tuple (ve_sorted hr T.b_sorted (ve_var 6))) (vl_cons (ve_tuple T.b_tuple (ve_var 8)) (vl_cons (ve_var 4) vl_nil))))))))))⟩) hsp
theorem ok__law_any_fire {P : Program} {w : World} {mg : Str → Option Value} {base : Heap} {K : PySem.W.Frag} {Fm : Gd K → Prop} (T : Fx K mg) {sp__law_pick : List Va → (Va → Prop) → Prop} (h__law_pick : HasV P w mg base Fm 2 s__law_pick "_law_pick" ["deck", "some"] sp__law_pick) {sp : List Va → (Va → Prop) → Prop} (ar : ∀ vas Q, sp vas Q → vas.length = 4)
    (hsp : ∀ vas Q, sp vas Q → den__law_any_fire sp__law_pick { nx := fun _ => Q (.fz .none), rt := Q } (ρ0 ["deck", "town", "root", "purse", "burning", "gone", "counts", "step", "some", "k", "one", "other", "house"] vas)) : HasV P w mg base Fm 3 s__law_any_fire "_law_any_fire" ["deck", "town", "root", "purse"] sp := by
  obtain ⟨f__law_pick, fd__law_pick, F__law_pick, m__law_pick, V__law_pick⟩ := h__law_pick.ex
  obtain ⟨f, fd, F, m⟩ := T.e__law_any_fire
  refine ⟨⟨f, fd, F, m, fnV_ok F sc__law_any_fire ar fun cdv A outer s H E hr => ?_⟩⟩
  exact body_mk (fun G hG => ⟨_,
    (vss_cons (vs_par3 4 5 6 (ve_lst (vl_cons (ve_var 2) vl_nil)) (ve_lst vl_nil) (ve_mul (ve_lst (vl_cons ve_int vl_nil)) (ve_ix (ve_var 1) ve_int)) sc__law_any_fire.nd)
      (vss_cons (vs_for (vi_range1 T.b_range (va_cons (ve_len T.b_len (ve_ix (ve_var 1) ve_int)) va_nil)) (vg_name 7 sc__law_any_fire.nd) (vss_cons (vs_set 8 (ve_lst vl_nil) sc__law_any_fire.nd)
      (vss_cons (vs_for (vi_enum T.b_enumerate (ve_ix (ve_var 1) ve_int)) (vg_tup 2 (vgs_cons (vg_name 9 sc__law_any_fire.nd) (vgs_cons (vg_tup 2 (vgs_cons (vg_name 10 sc__law_any_fire.nd) (vgs_cons (vg_name 11 sc__law_any_fire.nd) vgs_nil))) vgs_nil))) (vss_one (vs_if (vt_w (vw_and (vt_notin hr (ve_var 9) (ve_var 5)) (vw_and1 (vt_ne hr (ve_in hr (ve_var 10) (ve_var 4)) (ve_in hr (ve_var 11) (ve_var 4)))))) (vss_one (vs_frz 9 (vs_append 8 (ve_var 8) (vx_pure (ve_var 9))))) vss_nil)))
      (vss_cons (vs_if (vt_eq hr (ve_var 8) (ve_lst vl_nil)) (vss_one vs_break) vss_nil)
      (vss_cons (vs_set 9 (ve_call hG V__law_pick (hr.mono (by decide)) m__law_pick F__law_pick.kp (bi__law_pick F__law_pick) (va_arg (ve_var 0) (va_arg (ve_var 8) va_nil))) sc__law_any_fire.nd)
      (vss_cons (vs_asg (ve_ix (ve_ix (ve_var 1) ve_int) (ve_var 9)) (vg_tup 2 (vgs_cons (vg_name 10 sc__law_any_fire.nd) (vgs_cons (vg_name 11 sc__law_any_fire.nd) vgs_nil))))
      (vss_cons (vs_frz 10 (vs_frz 11 (vs_set 12 (ve_if (vt_in hr (ve_var 10) (ve_var 4)) (ve_var 11) (ve_var 10)) sc__law_any_fire.nd)))
      (vss_cons (vs_frz 9 (vs_append 5 (ve_var 5) (vx_pure (ve_var 9))))
      (vss_cons (vs_store 6 (ve_var 6) (ve_add (ve_ix (ve_var 6) (ve_var 12)) ve_int) (ve_var 12))
      (vss_one (vs_if (vt_gt (ve_ix (ve_var 6) (ve_var 12)) (ve_ix (ve_var 3) (ve_var 12))) (vss_one (vs_frz 12 (vs_append 4 (ve_var 4) (vx_pure (ve_var 12))))) vss_nil)))))))))))
      (vss_one (vs_ret (ve_sorted hr T.b_sorted (ve_var 4))))))⟩) hsp
theorem ok__law_any_tree {P : Program} {w : World} {mg : Str → Option Value} {base : Heap} {K : PySem.W.Frag} {Fm : Gd K → Prop} (T : Fx K mg) {sp__law_mixed : List Va → (Va → Prop) → Prop} (h__law_mixed : HasV P w mg base Fm 2 s__law_mixed "_law_mixed" ["deck", "some"] sp__law_mixed) {sp : List Va → (Va → Prop) → Prop} (ar : ∀ vas Q, sp vas Q → vas.length = 2)
    (hsp : ∀ vas Q, sp vas Q → den__law_any_tree sp__law_mixed { nx := fun _ => Q (.fz .none), rt := Q } (ρ0 ["deck", "town", "parts", "found", "k", "one", "other", "part"] vas)) : HasV P w mg base Fm 3 s__law_any_tree "_law_any_tree" ["deck", "town"] sp := by
  obtain ⟨f__law_mixed, fd__law_mixed, F__law_mixed, m__law_mixed, V__law_mixed⟩ := h__law_mixed.ex
  obtain ⟨f, fd, F, m⟩ := T.e__law_any_tree
  refine ⟨⟨f, fd, F, m, fnV_ok F sc__law_any_tree ar fun cdv A outer s H E hr => ?_⟩⟩
  exact body_mk (fun G hG => ⟨_,
    (vss_cons (vs_par2 2 3 (ve_listRg T.b_list (vr_1 T.b_range (ve_ix (ve_var 1) ve_int))) (ve_lst vl_nil) sc__law_any_tree.nd)
      (vss_cons (vs_for (vi_seq (ve_call hG V__law_mixed (hr.mono (by decide)) m__law_mixed F__law_mixed.kp (bi__law_mixed F__law_mixed) (va_arg (ve_var 0) (va_arg (ve_listRg T.b_list (vr_1 T.b_range (ve_len T.b_len (ve_ix (ve_var 1) ve_int)))) va_nil)))) (vg_name 4 sc__law_any_tree.nd) (vss_cons (vs_parN 2 (vp_cons 5 (vg_name (G := G) 5 sc__law_any_tree.nd).pe (ve_ix (ve_var 2) (ve_ix (ve_ix (ve_ix (ve_var 1) ve_int) (ve_var 4)) ve_int)) (vp_cons 6 (vg_name (G := G) 6 sc__law_any_tree.nd).pe (ve_ix (ve_var 2) (ve_ix (ve_ix (ve_ix (ve_var 1) ve_int) (ve_var 4)) ve_int)) vp_nil)))
      (vss_one (vs_if (vt_ne hr (ve_var 5) (ve_var 6)) (vss_cons (vs_frz 4 (vs_append 3 (ve_var 3) (vx_pure (ve_var 4))))
      (vss_one (vs_setLc 2 [("part", 7)] sc__law_any_tree.nd rfl (vic_seq (ve_var 2)) (fun _ _ _ _ _ => (vg_name 7 sc__law_any_tree.nd)) (fun _ _ _ _ _ => vts_nil) (fun _ _ _ _ _ => (ve_if (vt_eq hr (ve_var 7) (ve_var 6)) (ve_var 5) (ve_var 7)))))) vss_nil))))
      (vss_one (vs_ret (ve_tuple T.b_tuple (ve_sorted hr T.b_sorted (ve_var 3)))))))⟩) hsp
theorem ok__law_deck {P : Program} {w : World} {mg : Str → Option Value} {base : Heap} {K : PySem.W.Frag} {Fm : Gd K → Prop} (T : Fx K mg) (hFm : ∀ d l, Fm (gd3 K d l)) (hden : ∀ ns : List Int, ns.length ≤ 63 → den__law_deck ns (ρ0 ["script", "cells", "mixed", "cell"] [.dk])) :
    ∃ f fd, Fun K "_law_deck" "_law_deck" s__law_deck f fd ∧ mg "_law_deck" = some (.ref f) ∧ FnG P w K mg base CX0 1 f fd ["script"] (spDk Fm) := by
  obtain ⟨f, fd, F, m⟩ := T.e__law_deck
  refine ⟨f, fd, F, m, fnG_ok F sc__law_deck ?_ fun cdv A outer s H vs Q E hr hsp => ?_⟩
  · rintro vs H Q E ⟨a, ns, rfl, _⟩
    rfl
  obtain ⟨a, ns, rfl, hS, hl, hQ⟩ := hsp
  obtain ⟨G, rfl, g, hR, hX⟩ := gS_ex hS
  exact vh_end
    (vh_cons (vs_par2 1 2 (ve_lc [("cell", 3)] sc__law_deck.nd rfl (vic_seq (ve_scut hR (ve_var 0) vo_none (vo_some ve_int))) (fun _ _ _ _ _ => (vg_name 3 sc__law_deck.nd)) (fun _ _ _ _ _ => vts_nil) (fun _ _ _ _ _ => (ve_abs T.b_abs (ve_var 3)))) (ve_add ve_int (ve_len T.b_len (ve_scut hR (ve_var 0) vo_none (vo_some ve_int)))) sc__law_deck.nd) (vh_cons (vs_frz 1 (vs_for (vi_seq (ve_var 1)) (vg_name 3 sc__law_deck.nd) (vss_one (vs_set 2 (ve_modP (ve_add (ve_add (ve_mul (ve_var 2) ve_int) (ve_modP (ve_var 3) ve_int)) ve_int) ve_int) sc__law_deck.nd)))) (vh_ret3 (fun d l cs m H' hd hn ⟨Hf', x, g'⟩ => hQ (gd3 K d l) H' (hFm d l) (gd3_good hd hn) (hX Hf' H' x g'.res)) (ve_rev (ve_lc [("cell", 3)] sc__law_deck.nd rfl (vic_seq (ve_var 1)) (fun _ _ _ _ _ => (vg_name 3 sc__law_deck.nd)) (fun _ _ _ _ _ => (vts_one (vt_ge (ve_var 3) (ve_pow ve_int ve_int)))) (fun _ _ _ _ _ => (ve_var 3)))) (ve_var 2))))
    (rel0 (Hs := H) (vas := [.dk]) _ g (.cons rfl .nil)) (hden ns hl)
end Law

namespace Law
open PySem PySem.Spec PyProof.Rows L2 TR
theorem ok__law_next {P : Program} {w : World} {mg : Str → Option Value} {base : Heap} {K : PySem.W.Frag} {Fm : Gd K → Prop} (hFm : ∀ G, Fm G → Form3 G) (T : Fx K mg) : HasV P w mg base Fm 1 s__law_next "_law_next" ["deck", "many"] spNext := by
  obtain ⟨f, fd, F, m⟩ := T.e__law_next
  refine ⟨f, fd, F, m, fnG_ok F sc__law_next ?_ fun cdv A outer s H vs Q E hr hsp => ?_⟩
  · rintro vs H Q E ⟨G, hG, h⟩
    obtain ⟨_, _, e, _⟩ := n3_lift (hFm G hG) h
    rw [e]
    rfl
  have N := sc__law_next.nd
  obtain ⟨G0, hG, h⟩ := hsp
  obtain ⟨a, n, e, rd⟩ := n3_lift (hFm G0 hG) h
  subst e
  refine ⟨tN3 K, (pss_cons (ps_while PassesOwn.never (PW.pt (pw_and (vt_gt (G := G0) (ve_var 1) ve_int).pe (pw_and1 (vt_ne (G := G0) hr (ve_ix (ve_var 0) ve_int) (ve_lst vl_nil)).pe)))
      (pss_cons (ps_asg (pe_bm0 PySem.F.plainAttrs_list PySem.F.slot_list_pop PySem.F.type_list_pop mt_pop (ve_ix (G := G0) (ve_var 0) ve_int).pe) (vg_name (G := G0) 2 N).pe)
        (pss_one (ps_if (vt_gt (G := G0) (ve_var 2) ve_int).pe
          (pss_cons (ps_expr (pe_bm PySem.F.plainAttrs_list PySem.F.slot_list_append PySem.F.type_list_append mt_append (ve_ix (G := G0) (ve_var 0) ve_int).pe (pa_cons (ve_fdivW (G := G0) (ve_var 2) (ve_var 1)).pe pa_nil)))
            (pss_one (ps_ret (ve_modP (G := G0) (ve_var 2) (ve_var 1)).pe)))
          pss_nil))))
    (pss_cons (ps_asg (ve_modP (ve_add (ve_mul (ve_ix (G := G0) (ve_var 0) ve_int) ve_int) ve_int) ve_int).pe (pg_sub (ve_var (G := G0) 0).pe (ve_int (G := G0)).pe set_list))
      (pss_one (ps_ret (ve_modP (ve_fdivW (ve_modP (ve_mul (ve_ix (G := G0) (ve_var 0) ve_int) (ve_ix (ve_var 0) ve_int)) ve_int) ve_int) (ve_var 1)).pe)))), rd⟩
end Law

namespace Law
open PySem PySem.Spec PyProof.Rows L2 TR
theorem ok_law {P : Program} {w : World} {mg : Str → Option Value} {base : Heap} {K : PySem.W.Frag} {Fm : Gd K → Prop} (hG0 : ∃ G : Gd K, Fm G) (T : Fx K mg) (hdk : ∃ f fd, Fun K "_law_deck" "_law_deck" s__law_deck f fd ∧ mg "_law_deck" = some (.ref f) ∧ FnG P w K mg base CX0 1 f fd ["script"] (spDk Fm)) {sp__law_town : List Va → (Va → Prop) → Prop} (h__law_town : HasV P w mg base Fm 3 s__law_town "_law_town" ["deck", "most", "more"] sp__law_town) {sp__law_pick : List Va → (Va → Prop) → Prop} (h__law_pick : HasV P w mg base Fm 2 s__law_pick "_law_pick" ["deck", "some"] sp__law_pick) {sp__law_degrees : List Va → (Va → Prop) → Prop} (h__law_degrees : HasV P w mg base Fm 1 s__law_degrees "_law_degrees" ["town"] sp__law_degrees) {sp__law_next : List Va → (Va → Prop) → Prop} (h__law_next : HasV P w mg base Fm 1 s__law_next "_law_next" ["deck", "many"] sp__law_next) {sp__law_any_tree : List Va → (Va → Prop) → Prop} (h__law_any_tree : HasV P w mg base Fm 3 s__law_any_tree "_law_any_tree" ["deck", "town"] sp__law_any_tree) {sp__law_fire : List Va → (Va → Prop) → Prop} (h__law_fire : HasV P w mg base Fm 1 s__law_fire "_law_fire" ["town", "root", "purse", "tree"] sp__law_fire) {sp__law_any_fire : List Va → (Va → Prop) → Prop} (h__law_any_fire : HasV P w mg base Fm 3 s__law_any_fire "_law_any_fire" ["deck", "town", "root", "purse"] sp__law_any_fire) {sp_is_reduced : List Va → (Va → Prop) → Prop} (h_is_reduced : HasV P w mg base Fm 2 s_is_reduced "is_reduced" ["town", "purse", "root"] sp_is_reduced) {sp_burnt : List Va → (Va → Prop) → Prop} (h_burnt : HasV P w mg base Fm 1 s_burnt "burnt" ["town", "purse", "root"] sp_burnt) {f : Addr} {fd : FuncData} (F : Fun K "law" "law" s_law f fd)
    (hden : den_law sp__law_town sp__law_pick sp__law_degrees sp__law_next sp__law_any_tree sp__law_fire sp__law_any_fire sp_is_reduced sp_burnt { nx := fun _ => False, rt := isTrue } (ρL 16)) : FnG P w K mg base CX0 4 f fd ["script"] (spLaw K) := by
  obtain ⟨f__law_town, fd__law_town, F__law_town, m__law_town, V__law_town⟩ := h__law_town.ex
  obtain ⟨f__law_pick, fd__law_pick, F__law_pick, m__law_pick, V__law_pick⟩ := h__law_pick.ex
  obtain ⟨f__law_degrees, fd__law_degrees, F__law_degrees, m__law_degrees, V__law_degrees⟩ := h__law_degrees.ex
  obtain ⟨f__law_next, fd__law_next, F__law_next, m__law_next, V__law_next⟩ := h__law_next.ex
  obtain ⟨f__law_any_tree, fd__law_any_tree, F__law_any_tree, m__law_any_tree, V__law_any_tree⟩ := h__law_any_tree.ex
  obtain ⟨f__law_fire, fd__law_fire, F__law_fire, m__law_fire, V__law_fire⟩ := h__law_fire.ex
  obtain ⟨f__law_any_fire, fd__law_any_fire, F__law_any_fire, m__law_any_fire, V__law_any_fire⟩ := h__law_any_fire.ex
  obtain ⟨f_is_reduced, fd_is_reduced, F_is_reduced, m_is_reduced, V_is_reduced⟩ := h_is_reduced.ex
  obtain ⟨f_burnt, fd_burnt, F_burnt, m_burnt, V_burnt⟩ := h_burnt.ex
  obtain ⟨fk, fdk, Fk, mk, Vk⟩ := hdk
  refine fnG_ok F sc_law ?_ fun cdv A outer s H vs Q E hr hsp => ?_
  · rintro vs H Q E ⟨a, ns, rfl, _⟩
    rfl
  obtain ⟨a, ns, rfl, hS, hl, _, hQ⟩ := hsp
  exact law_mk hG0 (ps_asg (pe_g Vk (hr.mono (by decide)) mk Fk.kp (bi__law_deck Fk) pass0 rfl (pa_cons (ve_var (G := gd3 K 0 0) 0).pe pa_nil)) (vg_name (G := gd3 K 0 0) 1 sc_law.nd).pe)
    (fun G hG =>
    (vss_cons (vs_for (vi_range1 T.b_range (va_cons ve_int va_nil)) (vg_name 2 sc_law.nd) (vss_cons (vs_set 3 (ve_call hG V__law_town (hr.mono (by decide)) m__law_town F__law_town.kp (bi__law_town F__law_town) (va_arg (ve_var 1) (va_arg (ve_call hG V__law_pick (hr.mono (by decide)) m__law_pick F__law_pick.kp (bi__law_pick F__law_pick) (va_arg (ve_var 1) (va_arg (ve_lst (vl_cons ve_int (vl_cons ve_int (vl_cons ve_int (vl_cons ve_int vl_nil))))) va_nil))) (va_arg (ve_call hG V__law_pick (hr.mono (by decide)) m__law_pick F__law_pick.kp (bi__law_pick F__law_pick) (va_arg (ve_var 1) (va_arg (ve_lst (vl_cons ve_int (vl_cons ve_int (vl_cons ve_int vl_nil)))) va_nil))) va_nil)))) sc_law.nd)
      (vss_cons (vs_set 4 (ve_call hG V__law_degrees (hr.mono (by decide)) m__law_degrees F__law_degrees.kp (bi__law_degrees F__law_degrees) (va_arg (ve_var 3) va_nil)) sc_law.nd)
      (vss_cons (vs_set 5 (ve_call hG V__law_next (hr.mono (by decide)) m__law_next F__law_next.kp (bi__law_next F__law_next) (va_arg (ve_var 1) (va_arg (ve_ix (ve_var 3) ve_int) va_nil))) sc_law.nd)
      (vss_one (vs_for (vi_range1 T.b_range (va_cons ve_int va_nil)) (vg_name 6 sc_law.nd) (vss_cons (vs_set 7 (ve_tuple T.b_tuple (ve_lc [("count", 17)] sc_law.nd rfl (vic_seq (ve_var 4)) (fun _ _ _ _ _ => (vg_name 17 sc_law.nd)) (fun _ _ _ _ _ => vts_nil) (fun _ _ _ _ _ => (ve_call hG V__law_next (hr.mono (by decide)) m__law_next F__law_next.kp (bi__law_next F__law_next) (va_arg (ve_var 1) (va_arg (ve_add ve_int (ve_max2 T.b_max ve_int (ve_sub (ve_var 17) (ve_call hG V__law_next (hr.mono (by decide)) m__law_next F__law_next.kp (bi__law_next F__law_next) (va_arg (ve_var 1) (va_arg ve_int va_nil)))))) va_nil)))))) sc_law.nd)
      (vss_cons (vs_if (vt_eq hr (ve_call hG V__law_next (hr.mono (by decide)) m__law_next F__law_next.kp (bi__law_next F__law_next) (va_arg (ve_var 1) (va_arg ve_int va_nil))) ve_int) (vss_cons (vs_set 8 (ve_call hG V__law_any_tree (hr.mono (by decide)) m__law_any_tree F__law_any_tree.kp (bi__law_any_tree F__law_any_tree) (va_arg (ve_var 1) (va_arg (ve_var 3) va_nil))) sc_law.nd)
      (vss_cons (vs_set 7 (ve_ix (ve_call hG V__law_fire (hr.mono (by decide)) m__law_fire F__law_fire.kp (bi__law_fire F__law_fire) (va_arg (ve_var 3) (va_arg (ve_var 5) (va_arg ve_non (va_arg (ve_var 8) va_nil))))) ve_int) sc_law.nd)
      (vss_cons (vs_set 9 (ve_call hG V__law_next (hr.mono (by decide)) m__law_next F__law_next.kp (bi__law_next F__law_next) (va_arg (ve_var 1) (va_arg (ve_ix (ve_var 3) ve_int) va_nil))) sc_law.nd)
      (vss_one (vs_set 7 (ve_add (ve_add (ve_slice (ve_var 7) vo_none (vo_some (ve_var 9))) (ve_tup (vl_cons (ve_add (ve_ix (ve_var 7) (ve_var 9)) (ve_call hG V__law_next (hr.mono (by decide)) m__law_next F__law_next.kp (bi__law_next F__law_next) (va_arg (ve_var 1) (va_arg ve_int va_nil)))) vl_nil))) (ve_slice (ve_var 7) (vo_some (ve_add (ve_var 9) ve_int)) vo_none)) sc_law.nd))))) vss_nil)
      (vss_cons (vs_par2 10 11 (ve_repr hr T.b_repr (ve_lst (vl_cons (ve_var 3) (vl_cons (ve_var 5) (vl_cons (ve_var 7) vl_nil))))) (ve_listRg T.b_list (vr_1 T.b_range (ve_ix (ve_var 3) ve_int))) sc_law.nd)
      (vss_cons (vs_set 12 (ve_call hG V__law_any_fire (hr.mono (by decide)) m__law_any_fire F__law_any_fire.kp (bi__law_any_fire F__law_any_fire) (va_arg (ve_var 1) (va_arg (ve_var 3) (va_arg (ve_var 5) (va_arg (ve_var 7) va_nil))))) sc_law.nd)
      (vss_cons (vs_for (vi_range1 T.b_range (va_cons ve_int va_nil)) (vg_name 13 sc_law.nd) (vss_one (vs_if (vt_ne hr (ve_call hG V__law_any_fire (hr.mono (by decide)) m__law_any_fire F__law_any_fire.kp (bi__law_any_fire F__law_any_fire) (va_arg (ve_var 1) (va_arg (ve_var 3) (va_arg (ve_var 5) (va_arg (ve_var 7) va_nil))))) (ve_var 12)) (vss_one (vs_ret ve_bl)) vss_nil)))
      (vss_cons (vs_if (vt_ne hr (ve_sorted hr T.b_sorted (ve_ix (ve_call hG V__law_fire (hr.mono (by decide)) m__law_fire F__law_fire.kp (bi__law_fire F__law_fire) (va_arg (ve_var 3) (va_arg (ve_var 5) (va_arg (ve_var 7) (va_arg ve_non va_nil))))) ve_int)) (ve_var 12)) (vss_one (vs_ret ve_bl)) vss_nil)
      (vss_cons (vs_set 14 (ve_eq hr (ve_var 12) (ve_var 11)) sc_law.nd)
      (vss_cons (vs_set 15 (ve_lst (vl_cons (ve_call hG V_is_reduced (hr.mono (by decide)) m_is_reduced F_is_reduced.kp (bi_is_reduced F_is_reduced) (va_arg (ve_var 3) (va_arg (ve_var 7) (va_arg (ve_var 5) va_nil)))) (vl_cons (ve_callK0 hG V_is_reduced (hr.mono (by decide)) m_is_reduced F_is_reduced.kp (kb0_is_reduced F_is_reduced) (vk_arg (ve_var 3) (vk_arg (ve_var 7) (vk_arg (ve_var 5) vk_nil)))) vl_nil))) sc_law.nd)
      (vss_cons (vs_if (vt_ne hr (ve_repr hr T.b_repr (ve_var 15)) (ve_repr hr T.b_repr (ve_lst (vl_cons (ve_var 14) (vl_cons (ve_var 14) vl_nil))))) (vss_one (vs_ret ve_bl)) vss_nil)
      (vss_cons (vs_set 16 (ve_tuple T.b_tuple (ve_lc [("house", 9)] sc_law.nd rfl (vic_seq (ve_var 11)) (fun _ _ _ _ _ => (vg_name 9 sc_law.nd)) (fun _ _ _ _ _ => (vts_one (vt_notin hr (ve_var 9) (ve_var 12)))) (fun _ _ _ _ _ => (ve_var 9)))) sc_law.nd)
      (vss_cons (vs_set 15 (ve_lst (vl_cons (ve_ix (ve_call hG V_burnt (hr.mono (by decide)) m_burnt F_burnt.kp (bi_burnt F_burnt) (va_arg (ve_var 3) (va_arg (ve_var 7) (va_arg (ve_var 5) va_nil)))) ve_int) (vl_cons (ve_ix (ve_callK0 hG V_burnt (hr.mono (by decide)) m_burnt F_burnt.kp (kb1_burnt F_burnt) (vk_arg (ve_var 3) (vk_arg (ve_var 7) (vk_arg (ve_var 5) vk_nil)))) ve_int) vl_nil))) sc_law.nd)
      (vss_cons (vs_if (vt_ne hr (ve_repr hr T.b_repr (ve_var 15)) (ve_repr hr T.b_repr (ve_lst (vl_cons (ve_var 16) (vl_cons (ve_var 16) vl_nil))))) (vss_one (vs_ret ve_bl)) vss_nil)
      (vss_one (vs_if (vt_ne hr (ve_repr hr T.b_repr (ve_lst (vl_cons (ve_var 3) (vl_cons (ve_var 5) (vl_cons (ve_var 7) vl_nil))))) (ve_var 10)) (vss_one (vs_ret ve_bl)) vss_nil))))))))))))))))))))
      (vss_one (vs_ret ve_bl)))) hS hl hQ hden
end Law

namespace Law
open PySem PySem.Spec PyProof.Rows L2 TR
theorem cut63 {ds : List PyData} (h : ds.length ≤ 63) : TR.cutD ds none (some 63) = ds := by
  show List.take (min 63 ds.length - 0) (List.drop 0 ds) = ds
  rw [List.drop_zero, Nat.sub_zero, Nat.min_eq_right h]
  exact List.take_length
theorem all_ints {α : Type} {as : List α} {ys : List PyData} (h : All2 (fun _ y => ∃ i : Int, y = PyData.int i) as ys) : ∃ cs : List Int, ys = cs.map .int ∧ cs.length = as.length := by
  induction h with
  | nil => exact ⟨[], rfl, rfl⟩
  | cons p _ ih =>
    obtain ⟨i, rfl⟩ := p
    obtain ⟨cs, rfl, h⟩ := ih
    exact ⟨i :: cs, rfl, by simp [h]⟩
theorem deck_den (ns : List Int) (hn : ns.length ≤ 63) : den__law_deck ns (ρ0 ["script", "cells", "mixed", "cell"] [.dk]) := by
  have hs : 63 < sizeLine := by rw [sizeLine_eq]; decide
  refine ⟨rfl, ?_⟩
  show compV _ _ _ _ (TR.cutD (ns.map .int) none (some 63)) [] _
  rw [cut63 (by simpa using hn)]
  refine compV_map (fun _ y => ∃ i : Int, y = .int i) _ (by rw [List.length_map]; omega) (fun d hd N hN => ?_) fun ys hy => ?_
  · obtain ⟨i, _, rfl⟩ := List.mem_map.mp hd
    exact hN _ ⟨_, rfl⟩
  obtain ⟨cs, rfl, hc⟩ := all_ints hy
  rw [List.length_map] at hc
  refine ⟨rfl, ?_⟩
  show forV _ _ (cs.map .int) _ _
  refine forV_ind (fun items ρ => ∃ (js : List Int) (m : Int) (x : Sl), items = js.map .int ∧ ρ = [.dk, .fz (.list (cs.map .int)), .fz (.int m), x]) (fun d ds ρ N hI hN => ?_) (fun ρ hI => ?_) _ _ ⟨cs, _, _, rfl, rfl⟩
  · obtain ⟨js, m, x, e, rfl⟩ := hI
    cases js with
    | nil => cases e
    | cons j js =>
      rw [List.map_cons] at e
      cases e
      refine ⟨.inr (by decide), ?_⟩
      refine ⟨(by decide : (0 : Int) < _), ?_⟩
      refine ⟨(by decide : (0 : Int) < _), ?_⟩
      exact hN _ ⟨js, _, _, rfl, rfl⟩
  · obtain ⟨js, m, x, e, rfl⟩ := hI
    show compV _ _ _ _ (cs.map .int) [] _
    refine compV_ind (fun items acc => ∃ (js ks : List Int), items = js.map .int ∧ acc = ks.map .int ∧ js.length + ks.length ≤ 63) (fun d ds acc N hI hN => ?_) (fun acc hI => ?_) _ _ ⟨cs, [], rfl, rfl, by simp; omega⟩
    · obtain ⟨js, ks, e, rfl, hl⟩ := hI
      cases js with
      | nil => cases e
      | cons j js =>
        rw [List.map_cons] at e
        cases e
        rw [List.length_cons] at hl
        refine ⟨⟨by decide, by decide, by decide⟩, ?_⟩
        show if decide ((10 : Int) ^ 9 ≤ j) = true then _ else _
        split
        · refine ⟨by rw [List.length_map]; omega, hN _ ⟨js, ks ++ [j], rfl, by simp, by simp; omega⟩⟩
        · exact hN _ ⟨js, ks, rfl, rfl, by omega⟩
    · obtain ⟨js, ks, e, rfl, hl⟩ := hI
      exact ⟨ks.reverse, m, by rw [List.map_reverse], rfl, by rw [List.length_reverse]; omega⟩
end Law

namespace Law
open PySem PySem.Spec PyProof.Rows L2 TR
/-! ### the law's own small defs -/
def sp__law_pick : List Va → (Va → Prop) → Prop := fun vas Q => ∃ va ds, vas = [.dk, va] ∧ seqVa va ds ∧ ds ≠ [] ∧ ds.length ≤ 1000000 ∧ ∀ d ∈ ds, Q (.fz d)
theorem den_pick {vas : List Va} {Q : Va → Prop} (h : sp__law_pick vas Q) : den__law_pick spNext { nx := fun _ => Q (.fz .none), rt := Q } (ρ0 ["deck", "some"] vas) := by
  obtain ⟨va, ds, rfl, hv, hne, hl, q⟩ := h
  have pos : 0 < (ds.length : Int) := by
    cases ds with
    | nil => exact absurd rfl hne
    | cons _ _ => simp
  have lg : ((ds.length : Nat) : Int).natAbs.log2 < 9000 := log9 (by omega)
  have fin : ∀ r : Int, 0 ≤ r → r < (ds.length : Int) → ∃ d, atI ds r = some d ∧ Q (.fz d) := fun r h0 h1 => by
    obtain ⟨j, rfl⟩ := Int.eq_ofNat_of_zero_le h0
    have hj : j < ds.length := by omega
    exact ⟨ds[j], atI_nat (List.getElem?_eq_getElem hj), q _ (List.getElem_mem hj)⟩
  rcases hv with rfl | rfl | rfl
  · refine ⟨_, rfl, pos, lg, fun r h0 h1 _ => ?_⟩
    obtain ⟨d, e, qd⟩ := fin r h0 h1
    exact ⟨d, e, trivial, qd⟩
  · refine ⟨_, rfl, pos, lg, fun r h0 h1 _ => ?_⟩
    obtain ⟨d, e, qd⟩ := fin r h0 h1
    exact ⟨d, e, trivial, qd⟩
  · refine ⟨_, rfl, pos, lg, fun r h0 h1 _ => ?_⟩
    obtain ⟨d, e, qd⟩ := fin r h0 h1
    exact ⟨d, e, trivial, qd⟩
def sp__law_mixed : List Va → (Va → Prop) → Prop := fun vas Q => ∃ va ds, vas = [.dk, va] ∧ seqVa va ds ∧ SeqAt.shaped (.list ds) = true ∧ ds.length ≤ 1000000 ∧ ∀ es, es.Perm ds → Q (.nw es)
theorem den_mixed {vas : List Va} {Q : Va → Prop} (h : sp__law_mixed vas Q) : den__law_mixed spNext { nx := fun _ => Q (.fz .none), rt := Q } (ρ0 ["deck", "some", "left", "found"] vas) := by
  obtain ⟨va, ds, rfl, hv, hsh, hl, q⟩ := h
  have hs : 1000000 < sizeLine := by rw [sizeLine_eq]; decide
  have main : ∀ x : Sl, vSeq (vWhile (bV (eOp (eqV true) (varV 2) (lstV nilL))) (vAppend 3 (popAtX 2 (callV spNext (consA (argV (varV 0)) (consA (argV (calV lenC (consA (varV 2) nilA))) nilA))))))
      (vRetName 3) { nx := fun _ => Q (.fz .none), rt := Q } [.dk, x, .ow ds, .ow []] := by
    intro x
    refine while_ind (fun k ρ => ∃ left found : List PyData, ρ = [.dk, x, .ow left, .ow found] ∧ left.length = k ∧ (found ++ left).Perm ds) (fun k ρ N hI hN => ?_) (k := ds.length) ⟨ds, [], rfl, rfl, List.Perm.refl _⟩
    obtain ⟨left, found, rfl, hk, hp⟩ := hI
    have hlen := hp.length_eq
    rw [List.length_append] at hlen
    refine ⟨Nat.zero_le _, ?_⟩
    refine ⟨shaped_list.mpr fun d hd => shaped_list.mp hsh d (hp.mem_iff.mp (List.mem_append_right _ hd)), shaped_nil, ?_⟩
    show if (!PyData.eqv (.list left) (.list [])) = true then _ else _
    rw [eqv_nil]
    cases left with
    | nil =>
      refine ite_ff rfl ?_
      exact q found (by simpa using hp)
    | cons y ys =>
      refine ite_tt rfl ?_
      have pos : 0 < (((y :: ys).length : Nat) : Int) := by simp
      refine ⟨_, rfl, pos, log9 (by omega), fun r h0 h1 _ => ?_⟩
      obtain ⟨j, rfl⟩ := Int.eq_ofNat_of_zero_le h0
      have hj : j < (y :: ys).length := by omega
      have ej : (y :: ys)[j]? = some (y :: ys)[j] := List.getElem?_eq_getElem hj
      refine ⟨⟨by omega, by omega⟩, j, (y :: ys)[j], ?_, ej, ?_⟩
      · rw [seqIndex_of h0 h1]
        rfl
      · refine ⟨by omega, hN ((y :: ys).eraseIdx j).length _ ?_ ⟨_, _, rfl, rfl, ?_⟩⟩
        · rw [List.length_eraseIdx, if_pos hj]
          simp at hk ⊢
          omega
        · refine List.Perm.trans ?_ hp
          rw [List.append_assoc]
          exact List.Perm.append_left _ (perm_erase ej).symm
  rcases hv with rfl | rfl | rfl
  · exact ⟨Nat.zero_le _, main _⟩
  · exact ⟨Nat.zero_le _, main _⟩
  · exact ⟨Nat.zero_le _, main _⟩
def sp__law_pair : List Va → (Va → Prop) → Prop := fun vas Q => ∃ a b : Int, vas = [.fz (.int a), .fz (.int b)] ∧ Q (.fz (.tuple (if a < b then [.int a, .int b] else [.int b, .int a])))
theorem den_pair {vas : List Va} {Q : Va → Prop} (h : sp__law_pair vas Q) : den__law_pair { nx := fun _ => Q (.fz .none), rt := Q } (ρ0 ["one", "other"] vas) := by
  obtain ⟨a, b, rfl, q⟩ := h
  have hs : 2 ≤ sizeLine := by rw [sizeLine_eq]; decide
  show if decide (a < b) = true then _ else _
  by_cases h : a < b
  · rw [if_pos h] at q
    refine ite_tt (decide_eq_true h) ?_
    exact ⟨hs, trivial, q⟩
  · rw [if_neg h] at q
    refine ite_ff (decide_eq_false h) ?_
    exact ⟨hs, trivial, q⟩
end Law

namespace Law
open PySem PySem.Spec PyProof.Rows L2 TR
def edgesOk (n : Nat) (es : List (Nat × Nat)) : Prop := ∀ p ∈ es, p.1 < p.2 ∧ p.2 < n
theorem pair_ok {n a b : Nat} (ha : a < n) (hb : b < n) (hne : a ≠ b) : ∃ p : Nat × Nat, (p.1 < p.2 ∧ p.2 < n) ∧ PyData.tuple (if (a : Int) < (b : Int) then [.int a, .int b] else [.int b, .int a]) = pr p := by
  by_cases h : a < b
  · exact ⟨(a, b), ⟨h, hb⟩, by rw [if_pos (by omega)]⟩
  · exact ⟨(b, a), ⟨by simp; omega, ha⟩, by rw [if_neg (by omega)]⟩
theorem rgD_eq (n : Nat) : rgD 0 n = (List.range n).map fun i : Nat => PyData.int (i : Int) := by
  unfold rgD
  simp
def sp__law_town : List Va → (Va → Prop) → Prop := fun vas Q => ∃ most more : Int, vas = [.dk, .fz (.int most), .fz (.int more)] ∧ 1 ≤ most ∧ most ≤ 1000 ∧ 0 ≤ more ∧ more ≤ 1000 ∧
  ∀ (n : Nat) (es : List (Nat × Nat)), 1 ≤ n → (n : Int) ≤ most → edgesOk n es → (es.length : Int) ≤ n - 1 + more → Q (.fz (tw n es))
theorem pairs_of {n : Nat} : ∀ {ds ys : List PyData}, All2 (fun _ y => ∃ p : Nat × Nat, (p.1 < p.2 ∧ p.2 < n) ∧ y = pr p) ds ys → ∃ es : List (Nat × Nat), ys = es.map pr ∧ edgesOk n es
  | _, _, .nil => ⟨[], rfl, fun _ h => nomatch h⟩
  | _, _, .cons ⟨p, hp, e⟩ t => by
    obtain ⟨es, rfl, h⟩ := pairs_of t
    refine ⟨p :: es, by rw [e]; rfl, fun q hq => ?_⟩
    rcases List.mem_cons.mp hq with rfl | hq
    · exact hp
    · exact h q hq
theorem addV_int {i j k : Int} {F : Va → Prop} (h : i + j = k) (q : F (.fz (.int k))) : addV (.fz (.int i)) (.fz (.int j)) F := by
  subst h
  exact q
theorem den_town {vas : List Va} {Q : Va → Prop} (h : sp__law_town vas Q) : den__law_town spNext sp__law_mixed sp__law_pair sp__law_pick { nx := fun _ => Q (.fz .none), rt := Q } (ρ0 ["deck", "most", "more", "houses", "names", "pairs", "step", "one", "other", "k"] vas) := by
  obtain ⟨most, more, rfl, hm1, hm2, hr1, hr2, q⟩ := h
  have hs : 1000000 < sizeLine := by rw [sizeLine_eq]; decide
  refine ⟨most, rfl, by omega, log9I (by omega) (by omega), fun r h0 h1 _ => ?_⟩
  obtain ⟨r, rfl⟩ := Int.eq_ofNat_of_zero_le h0
  obtain ⟨n, hn⟩ : ∃ n : Nat, (1 : Int) + (r : Int) = (n : Int) := ⟨1 + r, by omega⟩
  have hn1 : 1 ≤ n := by omega
  have hnm : (n : Int) ≤ most := by omega
  refine addV_int hn ?_
  refine ⟨by unfold RgOk; omega, ?_⟩
  have e0 : rgD 0 ((n : Int) - 0).toNat = (List.range n).map fun i : Nat => PyData.int (i : Int) := by
    rw [show ((n : Int) - 0).toNat = n by omega]
    exact rgD_eq n
  refine ⟨_, _, rfl, .inl rfl, ?_, ?_, fun es hes _ => ?_⟩
  · rw [e0]
    refine shaped_list.mpr fun d hd => ?_
    obtain ⟨i, _, rfl⟩ := List.mem_map.mp hd
    simp [PyData.canLay0, PyData.depth]
  · rw [e0]
    simp
    omega
  rw [e0] at hes
  obtain ⟨ks, rfl, hks⟩ := perm_map hes
  have hkl : ks.length = n := by rw [hks.length_eq, List.length_range]
  have hkn : ks.Nodup := hks.nodup_iff.mpr List.nodup_range
  have hkm : ∀ k ∈ ks, k < n := fun k hk => List.mem_range.mp (hks.mem_iff.mp hk)
  refine ⟨⟨by omega, by omega, by omega, by omega⟩, ?_⟩
  refine compV_map (fun _ y => ∃ p : Nat × Nat, (p.1 < p.2 ∧ p.2 < n) ∧ y = pr p) _ (by unfold rgD; rw [List.length_map, List.length_range]; omega) (fun d hd N hN => ?_) fun ys hy => ?_
  · unfold rgD at hd
    obtain ⟨i, hi, rfl⟩ := List.mem_map.mp hd
    have hi := List.mem_range.mp hi
    have hk : 1 + i < ks.length := by omega
    have e1 : ∀ (m : Nat) (h : m < ks.length), atI (ks.map fun i : Nat => PyData.int (i : Int)) (m : Int) = some (.int (ks[m] : Int)) := fun m h => atI_nat (by rw [List.getElem?_map, List.getElem?_eq_getElem h]; rfl)
    refine ⟨_, e1 (1 + i) hk, ?_⟩
    refine ⟨_, rfl, by omega, log9I (by omega) (by omega), fun t ht0 ht1 _ => ?_⟩
    obtain ⟨t, rfl⟩ := Int.eq_ofNat_of_zero_le ht0
    have ht : t < ks.length := by omega
    refine ⟨_, e1 t ht, ?_⟩
    refine ⟨_, _, rfl, fun _ => ?_⟩
    obtain ⟨p, hp, e⟩ := pair_ok (hkm _ (List.getElem_mem hk)) (hkm _ (List.getElem_mem ht)) (fun z => by
      have := (List.getElem_inj hkn).mp z
      omega)
    exact hN _ ⟨p, hp, e⟩
  have hyl := hy.len
  have hrl : (rgD 1 ((n : Int) - 1).toNat).length = n - 1 := by
    unfold rgD
    rw [List.length_map, List.length_range]
    omega
  obtain ⟨es1, rfl, hes1⟩ := pairs_of hy
  rw [List.length_map] at hyl
  refine ⟨_, rfl, by omega, log9I (by omega) (by omega), fun u hu0 hu1 _ => ?_⟩
  obtain ⟨u, rfl⟩ := Int.eq_ofNat_of_zero_le hu0
  refine ⟨by omega, by omega, ?_⟩
  refine forV_ind (fun items ρ => ∃ (es : List (Nat × Nat)) (x6 x7 x8 x9 : Sl), ρ = [.dk, .fz (.int most), .fz (.int more), .fz (.int (n : Int)), .ow (ks.map fun i : Nat => PyData.int (i : Int)), .ow (es.map pr), x6, x7, x8, x9] ∧ edgesOk n es ∧ n - 1 ≤ es.length ∧ es.length + items.length ≤ n - 1 + more.toNat)
    (fun d ds ρ N hI hN => ?_) (fun ρ hI => ?_) _ _ ⟨es1, _, _, _, _, rfl, hes1, by omega, ?_⟩
  · obtain ⟨es, x6, x7, x8, x9, rfl, hok, hl1, hl2⟩ := hI
    rw [List.length_cons] at hl2
    refine ⟨_, rfl, by omega, log9I (by omega) (by omega), fun a ha0 ha1 _ => ?_⟩
    refine ⟨_, rfl, by omega, log9I (by omega) (by omega), fun b hb0 hb1 _ => ?_⟩
    obtain ⟨a, rfl⟩ := Int.eq_ofNat_of_zero_le ha0
    obtain ⟨b, rfl⟩ := Int.eq_ofNat_of_zero_le hb0
    by_cases hab : a = b
    · refine ite_ff (by simp [hab]) ?_
      refine ite_ff rfl ?_
      exact hN _ ⟨es, _, _, _, _, rfl, hok, hl1, by omega⟩
    · refine ite_tt (by simp; omega) ?_
      by_cases h14 : (((es.map pr).length : Nat) : Int) < 14
      · refine ite_tt (decide_eq_true h14) ?_
        have fin : ∀ p : Nat × Nat, p.1 < p.2 ∧ p.2 < n → (es.map pr).length < sizeLine ∧ N [.dk, .fz (.int most), .fz (.int more), .fz (.int (n : Int)), .ow (ks.map fun i : Nat => PyData.int (i : Int)), .ow (es.map pr ++ [pr p]), .fz d, .fz (.int (a : Int)), .fz (.int (b : Int)), x9] := fun p hp => by
          refine ⟨by omega, hN _ ⟨es ++ [p], _, _, _, _, by rw [List.map_append]; rfl, fun q hq => ?_, by simp; omega, by simp; omega⟩⟩
          rcases List.mem_append.mp hq with hq | hq
          · exact hok q hq
          · rw [List.mem_singleton.mp hq]
            exact hp
        refine ⟨_, rfl, by omega, log9I (by omega) (by omega), fun c hc0 hc1 _ => ?_⟩
        by_cases hc : c = 0
        · refine ite_tt (by simp [hc]) ?_
          refine ⟨_, _, rfl, .inr (.inl rfl), ?_, by omega, fun d hd _ => ?_⟩
          · cases es with
            | nil => simp at hl1; omega
            | cons _ _ => simp
          · obtain ⟨p, hp, rfl⟩ := List.mem_map.mp hd
            exact fin p (hok p hp)
        · refine ite_ff (by simp [hc]) ?_
          refine ⟨_, _, rfl, fun _ => ?_⟩
          obtain ⟨p, hp, e⟩ := pair_ok (n := n) (a := a) (b := b) (by omega) (by omega) hab
          rw [e]
          exact fin p hp
      · refine ite_ff (decide_eq_false h14) ?_
        exact hN _ ⟨es, _, _, _, _, rfl, hok, hl1, by omega⟩
  · obtain ⟨es, x6, x7, x8, x9, rfl, hok, hl1, hl2⟩ := hI
    rw [List.length_nil] at hl2
    obtain ⟨s1, s2, s3⟩ := sort_pr es
    obtain ⟨es', e, hp⟩ := perm_map (List.mergeSort_perm (es.map pr) dle)
    have q' : Q (.fz (.tuple [.int (n : Int), .tuple ((es.map pr).mergeSort dle)])) := by
      rw [e]
      refine q n es' hn1 hnm (fun p hp' => hok p (hp.mem_iff.mp hp')) ?_
      rw [hp.length_eq]
      omega
    refine ⟨⟨s1, s2, s3, by rw [List.length_map]; omega⟩, ?_⟩
    exact ⟨by rw [sizeLine_eq]; exact (by decide : 2 ≤ 16777216), trivial, q'⟩
  · unfold rgD
    rw [List.length_map, List.length_range]
    omega
end Law

namespace Law
open PySem PySem.Spec PyProof.Rows L2 TR
/-! ### fire, in plain words -/
abbrev Eg := List (Nat × Nat)
def eg (es : Eg) (k : Nat) : Nat × Nat := es.getD k (0, 0)
def con (es : Eg) (B : List Nat) (h k : Nat) : Bool := decide (((eg es k).1 = h ∧ (eg es k).2 ∈ B) ∨ ((eg es k).2 = h ∧ (eg es k).1 ∈ B))
def tch (es : Eg) (h k : Nat) : Bool := decide ((eg es k).1 = h ∨ (eg es k).2 = h)
def deg (es : Eg) (B : List Nat) (h : Nat) : Nat := ((List.range es.length).filter (con es B h)).length
def num (xs : List Int) (k : Nat) : Int := xs.getD k 0
def Closed (n : Nat) (es : Eg) (pu : List Int) (root : Nat) (S : List Nat) : Prop := root ∈ S ∧ ∀ h, h < n → h ∉ S → (deg es S h : Int) ≤ num pu h
structure Fire (n : Nat) (es : Eg) (pu : List Int) (root : Nat) (B : List Nat) : Prop where
  nd : B.Nodup
  lt : ∀ b ∈ B, b < n
  cl : Closed n es pu root B
  least : ∀ S, Closed n es pu root S → ∀ b ∈ B, b ∈ S
def canon (n : Nat) (B : List Nat) : List Nat := (List.range n).filter (fun h => decide (h ∈ B))
def rest (n : Nat) (B : List Nat) : List Nat := (List.range n).filter (fun h => decide (h ∉ B))
theorem Fire.same {n es pu root A B} (a : Fire n es pu root A) (b : Fire n es pu root B) (h : Nat) : h ∈ A ↔ h ∈ B := ⟨a.least B b.cl h, b.least A a.cl h⟩
theorem Fire.canon {n es pu root A B} (a : Fire n es pu root A) (b : Fire n es pu root B) : canon n A = canon n B := by
  unfold Law.canon
  congr 1
  funext h
  simp [a.same b h]
theorem Fire.rest {n es pu root A B} (a : Fire n es pu root A) (b : Fire n es pu root B) : rest n A = rest n B := by
  unfold Law.rest
  congr 1
  funext h
  simp [a.same b h]
theorem filter_le {p q : Nat → Bool} {l : List Nat} (h : ∀ k ∈ l, p k = true → q k = true) : (l.filter p).length ≤ (l.filter q).length := by
  rw [← List.countP_eq_length_filter, ← List.countP_eq_length_filter]
  exact List.countP_mono_left h
theorem deg_mono {es : Eg} {A B : List Nat} {h : Nat} (s : ∀ b ∈ A, b ∈ B) : deg es A h ≤ deg es B h := filter_le fun k _ e => by
  unfold con at *
  simp only [decide_eq_true_eq] at *
  rcases e with ⟨e1, e2⟩ | ⟨e1, e2⟩
  · exact .inl ⟨e1, s _ e2⟩
  · exact .inr ⟨e1, s _ e2⟩
/-- one road after the other -/
structure Burn (n : Nat) (es : Eg) (pu : List Int) (root : Nat) (B gone : List Nat) (cs : List Int) : Prop where
  nd : B.Nodup
  lt : ∀ b ∈ B, b < n
  rt : root ∈ B
  least : ∀ S, Closed n es pu root S → ∀ b ∈ B, b ∈ S
  gnd : gone.Nodup
  glt : ∀ k ∈ gone, k < es.length
  gn : ∀ k ∈ gone, (eg es k).1 ∈ B ∨ (eg es k).2 ∈ B
  cl : cs.length = n
  cnt : ∀ h, h < n → h ∉ B → num cs h = ((gone.filter (tch es h)).length : Int) ∧ num cs h ≤ num pu h
/-- a road that burns now: one end burns, the other not -/
def opn (es : Eg) (B gone : List Nat) (k : Nat) : Bool := decide (k ∉ gone) && (decide ((eg es k).1 ∈ B) != decide ((eg es k).2 ∈ B))
theorem num_set {xs : List Int} {h j : Nat} {v : Int} (hl : h < xs.length) : num (xs.set h v) j = if j = h then v else num xs j := by
  unfold num
  rw [List.getD_eq_getElem?_getD, List.getD_eq_getElem?_getD]
  by_cases e : j = h
  · subst e
    rw [if_pos rfl, List.getElem?_set_self hl]
    rfl
  · rw [if_neg e, List.getElem?_set_ne (Ne.symm e)]
theorem Burn.start {n es pu root} (hr : root < n) (hp : ∀ h, h < n → 0 ≤ num pu h) : Burn n es pu root [root] [] (List.replicate n 0) := by
  refine ⟨by simp, by simpa using hr, by simp, fun S c b hb => ?_, by simp, fun k h => (nomatch h), fun k h => (nomatch h), by simp, fun h hn _ => ?_⟩
  · rw [List.mem_singleton.mp hb]
    exact c.1
  · have : num (List.replicate n 0) h = 0 := by simp [num, List.getD, hn]
    rw [this]
    exact ⟨by simp, hp h hn⟩
theorem eg_ok {n : Nat} {es : Eg} (hok : edgesOk n es) {k : Nat} (hk : k < es.length) : (eg es k).1 < (eg es k).2 ∧ (eg es k).2 < n := by
  have : eg es k = es[k] := by simp [eg, List.getD, hk]
  rw [this]
  exact hok _ (List.getElem_mem hk)
/-- the house at the other end -/
theorem Burn.step {n es pu root B gone cs} (hok : edgesOk n es) (b : Burn n es pu root B gone cs) {k h : Nat} (hk : k < es.length) (ho : opn es B gone k = true) (hh : h = if (eg es k).1 ∈ B then (eg es k).2 else (eg es k).1) :
    h < n ∧ h ∉ B ∧ (¬ (num pu h < num cs h + 1) → Burn n es pu root B (gone ++ [k]) (cs.set h (num cs h + 1))) ∧ (num pu h < num cs h + 1 → Burn n es pu root (B ++ [h]) (gone ++ [k]) (cs.set h (num cs h + 1))) := by
  have hb := eg_ok hok hk
  unfold opn at ho
  simp only [Bool.and_eq_true, decide_eq_true_eq, bne_iff_ne, ne_eq] at ho
  obtain ⟨hg, hx⟩ := ho
  have key : h < n ∧ h ∉ B ∧ tch es h k = true ∧ con es B h k = true ∧ ∀ j, j ∉ B → tch es j k = true → j = h := by
    by_cases e : (eg es k).1 ∈ B
    · rw [if_pos e] at hh
      have e2 : (eg es k).2 ∉ B := fun z => hx (by simp [e, z])
      subst hh
      refine ⟨hb.2, e2, by simp [tch], by simp [con, e], fun j hj ht => ?_⟩
      simp only [tch, decide_eq_true_eq] at ht
      rcases ht with ht | ht
      · rw [ht] at e; exact absurd e hj
      · exact ht.symm
    · rw [if_neg e] at hh
      have e2 : (eg es k).2 ∈ B := Classical.byContradiction fun z => hx (by simp [e, z])
      subst hh
      refine ⟨by omega, e, by simp [tch], by simp [con, e2], fun j hj ht => ?_⟩
      simp only [tch, decide_eq_true_eq] at ht
      rcases ht with ht | ht
      · exact ht.symm
      · rw [ht] at e2; exact absurd e2 hj
  obtain ⟨h1, h2, h3, h4, h5⟩ := key
  have c0 := (b.cnt h h1 h2).1
  have flt : ∀ j, j ∉ B → j ≠ h → ((gone ++ [k]).filter (tch es j)) = gone.filter (tch es j) := fun j hj hne => by
    rw [List.filter_append]
    have : tch es j k = false := by
      cases e : tch es j k with
      | false => rfl
      | true => exact absurd (h5 j hj e) hne
    simp [this]
  have fh : ((gone ++ [k]).filter (tch es h)).length = (gone.filter (tch es h)).length + 1 := by
    rw [List.filter_append, List.length_append]
    simp [h3]
  have gnd : (gone ++ [k]).Nodup := by
    rw [List.nodup_append]
    exact ⟨b.gnd, by simp, fun a ha c hc => by rw [List.mem_singleton.mp hc]; exact fun z => hg (z ▸ ha)⟩
  have glt : ∀ j ∈ gone ++ [k], j < es.length := fun j hj => by
    rcases List.mem_append.mp hj with hj | hj
    · exact b.glt j hj
    · rw [List.mem_singleton.mp hj]; exact hk
  have gk : (eg es k).1 ∈ B ∨ (eg es k).2 ∈ B := by
    simp only [con, decide_eq_true_eq] at h4
    rcases h4 with h4 | h4
    · exact .inr h4.2
    · exact .inl h4.2
  have hcl : h < cs.length := by rw [b.cl]; exact h1
  refine ⟨h1, h2, fun hle => ?_, fun hgt => ?_⟩
  · refine ⟨b.nd, b.lt, b.rt, b.least, gnd, glt, fun j hj => ?_, by rw [List.length_set]; exact b.cl, fun j hj1 hj2 => ?_⟩
    · rcases List.mem_append.mp hj with hj | hj
      · exact b.gn j hj
      · rw [List.mem_singleton.mp hj]; exact gk
    · rw [num_set hcl]
      by_cases e : j = h
      · subst e
        rw [if_pos rfl, fh, c0]
        rw [c0] at hle
        exact ⟨by push_cast; rfl, by omega⟩
      · rw [if_neg e, flt j hj2 e]
        exact b.cnt j hj1 hj2
  · refine ⟨?_, fun c hc => ?_, List.mem_append_left _ b.rt, fun S c x hx => ?_, gnd, glt, fun j hj => ?_, by rw [List.length_set]; exact b.cl, fun j hj1 hj2 => ?_⟩
    · rw [List.nodup_append]
      exact ⟨b.nd, by simp, fun a ha c hc => by rw [List.mem_singleton.mp hc]; exact fun z => h2 (z ▸ ha)⟩
    · rcases List.mem_append.mp hc with hc | hc
      · exact b.lt c hc
      · rw [List.mem_singleton.mp hc]; exact h1
    · rcases List.mem_append.mp hx with hx | hx
      · exact b.least S c x hx
      · rw [List.mem_singleton.mp hx]
        refine Classical.byContradiction fun hS => ?_
        have d := c.2 h h1 hS
        have le : ((gone ++ [k]).filter (tch es h)).length ≤ deg es S h := by
          refine List.Nodup.length_le_of_subset (gnd.filter _) fun j hj => ?_
          obtain ⟨j1, j2⟩ := List.mem_filter.mp hj
          refine List.mem_filter.mpr ⟨List.mem_range.mpr (glt j j1), ?_⟩
          have jb : (eg es j).1 ∈ B ∨ (eg es j).2 ∈ B := by
            rcases List.mem_append.mp j1 with j1 | j1
            · exact b.gn j j1
            · rw [List.mem_singleton.mp j1]; exact gk
          simp only [tch, decide_eq_true_eq] at j2
          simp only [con, decide_eq_true_eq]
          rcases j2 with j2 | j2
          · rcases jb with jb | jb
            · rw [j2] at jb; exact absurd jb h2
            · exact .inl ⟨j2, b.least S c _ jb⟩
          · rcases jb with jb | jb
            · exact .inr ⟨j2, b.least S c _ jb⟩
            · rw [j2] at jb; exact absurd jb h2
        rw [fh] at le
        omega
    · rcases List.mem_append.mp hj with hj | hj
      · rcases b.gn j hj with z | z
        · exact .inl (List.mem_append_left _ z)
        · exact .inr (List.mem_append_left _ z)
      · rw [List.mem_singleton.mp hj]
        rcases gk with z | z
        · exact .inl (List.mem_append_left _ z)
        · exact .inr (List.mem_append_left _ z)
    · have hj3 : j ∉ B := fun z => hj2 (List.mem_append_left _ z)
      have hne : j ≠ h := fun z => hj2 (List.mem_append_right _ (by rw [z]; simp))
      rw [num_set hcl, if_neg hne, flt j hj3 hne]
      exact b.cnt j hj1 hj3
theorem Burn.done {n es pu root B gone cs} (hok : edgesOk n es) (b : Burn n es pu root B gone cs) (h : ∀ k, k < es.length → opn es B gone k = false) : Fire n es pu root B := by
  refine ⟨b.nd, b.lt, ⟨b.rt, fun j hj1 hj2 => ?_⟩, b.least⟩
  obtain ⟨c1, c2⟩ := b.cnt j hj1 hj2
  refine Int.le_trans ?_ c2
  rw [c1]
  have : deg es B j ≤ (gone.filter (tch es j)).length := by
    refine List.Nodup.length_le_of_subset (List.nodup_range.filter _) fun k hk => ?_
    obtain ⟨k1, k2⟩ := List.mem_filter.mp hk
    have k1 := List.mem_range.mp k1
    have o := h k k1
    have eo := eg_ok hok k1
    simp only [con, decide_eq_true_eq] at k2
    refine List.mem_filter.mpr ⟨?_, by simp only [tch, decide_eq_true_eq]; rcases k2 with z | z; exact .inl z.1; exact .inr z.1⟩
    refine Classical.byContradiction fun hg => ?_
    unfold opn at o
    rcases k2 with ⟨z1, z2⟩ | ⟨z1, z2⟩
    · have : (eg es k).1 ∉ B := by rw [z1]; exact hj2
      simp [hg, this, z2] at o
    · have : (eg es k).2 ∉ B := by rw [z1]; exact hj2
      simp [hg, this, z2] at o
  omega
/-- so many steps are enough -/
theorem Burn.all {n es pu root B gone cs} (hok : edgesOk n es) (b : Burn n es pu root B gone cs) (h : gone.length = es.length) : Fire n es pu root B := b.done hok fun k hk => by
  have : k ∈ gone := by
    refine Classical.byContradiction fun hg => ?_
    have le : (k :: gone).length ≤ (List.range es.length).length := List.Nodup.length_le_of_subset (List.nodup_cons.mpr ⟨hg, b.gnd⟩) fun j hj => by
      rcases List.mem_cons.mp hj with rfl | hj
      · exact List.mem_range.mpr hk
      · exact List.mem_range.mpr (b.glt j hj)
    rw [List.length_cons, List.length_range] at le
    omega
  simp [opn, this]
end Law

namespace Law
open PySem PySem.Spec PyProof.Rows L2 TR
theorem line {k : Nat} (h : k ≤ 16777216) : k ≤ sizeLine := by
  rw [sizeLine_eq]
  exact h
abbrev nI (ks : List Nat) : List PyData := ks.map fun k : Nat => PyData.int (k : Int)
theorem inD_nat (neg : Bool) (ks : List Nat) (k : Nat) : inD neg (nI ks) (.int (k : Int)) = if neg then !decide (k ∈ ks) else decide (k ∈ ks) := by
  have e : (nI ks).any (fun z => PyData.eqv z (.int (k : Int))) = decide (k ∈ ks) := by
    induction ks with
    | nil => rfl
    | cons a ks ih =>
      have hd : PyData.eqv (.int (a : Int)) (.int (k : Int)) = decide (k = a) := by
        simp only [PyData.eqv]
        by_cases h : k = a
        · subst h; simp
        · have : ¬ ((a : Int) = (k : Int)) := fun z => h (by omega)
          simp [h, this]
      rw [nI, List.map_cons, List.any_cons, hd]
      rw [nI] at ih
      rw [ih]
      by_cases h : k = a <;> simp [h]
  unfold inD
  rw [e]
theorem sh_nI (ks : List Nat) : SeqAt.shaped (.list (nI ks)) = true := shaped_list.mpr fun d hd => by
  obtain ⟨k, _, rfl⟩ := List.mem_map.mp hd
  simp [PyData.canLay0, PyData.depth]
theorem sh_int (i : Int) : SeqAt.shaped (.int i) = true := by
  simp [SeqAt.shaped, PyData.canLay0, PyData.depth]
theorem sh_bool (b : Bool) : SeqAt.shaped (.bool b) = true := by
  simp [SeqAt.shaped, PyData.canLay0, PyData.depth]
/-- is this house among them -/
theorem in_ev {ρ : List Sl} {i j : Nat} {k : Nat} {ks : List Nat} {neg : Bool} (hi : ρ[i]? = some (.fz (.int (k : Int)))) (hj : ρ[j]? = some (.ow (nI ks))) {Q : Va → Prop} (q : Q (.fz (.bool (if neg then !decide (k ∈ ks) else decide (k ∈ ks))))) :
    eOp (TR.inV neg) (varV i) (varV j) ρ Q := by
  unfold eOp varV
  rw [hi, hj]
  refine ⟨sh_int _, sh_nI ks, ?_⟩
  show Q (.fz (.bool (inD neg (nI ks) (.int (k : Int)))))
  rw [inD_nat]
  exact q
/-- may this road burn now -/
theorem opn_ev {es : Eg} {ρ : List Sl} {ik io it ig ib : Nat} {k : Nat} {B gone : List Nat} (h1 : ρ[ik]? = some (.fz (.int (k : Int)))) (h2 : ρ[io]? = some (.fz (.int ((eg es k).1 : Int)))) (h3 : ρ[it]? = some (.fz (.int ((eg es k).2 : Int))))
    (h4 : ρ[ig]? = some (.ow (nI gone))) (h5 : ρ[ib]? = some (.ow (nI B))) (Q : Bool → Prop) (q : Q (opn es B gone k)) :
    andT (bV (eOp (TR.inV true) (varV ik) (varV ig))) (bV (eOp (TR.eqV true) (eOp (TR.inV false) (varV io) (varV ib)) (eOp (TR.inV false) (varV it) (varV ib)))) ρ Q := by
  unfold andT bV
  refine in_ev h1 h4 ?_
  unfold opn at q
  show if (!decide (k ∈ gone)) = true then _ else _
  by_cases hg : k ∈ gone
  · refine ite_ff (by simp [hg]) ?_
    simpa [hg] using q
  · refine ite_tt (by simp [hg]) ?_
    show eOp (TR.eqV true) _ _ ρ _
    unfold eOp
    refine in_ev h2 h5 ?_
    refine in_ev h3 h5 ?_
    refine ⟨sh_bool _, sh_bool _, ?_⟩
    show Q (!(decide ((eg es k).1 ∈ B) == decide ((eg es k).2 ∈ B)))
    have : (decide (k ∉ gone) && (decide ((eg es k).1 ∈ B) != decide ((eg es k).2 ∈ B))) = (!(decide ((eg es k).1 ∈ B) == decide ((eg es k).2 ∈ B))) := by
      rw [decide_eq_true hg, Bool.true_and]
      rfl
    rw [← this]
    exact q
/-! ### sorted houses -/
theorem sort_nI {n : Nat} {B : List Nat} (hd : B.Nodup) (hl : ∀ b ∈ B, b < n) : (nI B).mergeSort dle = nI (canon n B) := by
  have e : (B.mergeSort fun a b => decide (a ≤ b)).map (fun k : Nat => PyData.int (k : Int)) = (nI B).mergeSort dle := List.map_mergeSort (f := fun k : Nat => PyData.int (k : Int)) (l := B) fun a _ b _ => by
    unfold dle
    rw [PySem.W.dataLt_int]
    by_cases h : a ≤ b
    · rw [decide_eq_true h, decide_eq_false (by omega)]; rfl
    · rw [decide_eq_false h, decide_eq_true (by omega)]; rfl
  rw [← e]
  congr 1
  have p1 : (B.mergeSort fun a b => decide (a ≤ b)).Perm B := List.mergeSort_perm ..
  have p2 : (canon n B).Perm B := (List.perm_ext_iff_of_nodup (List.nodup_range.filter _) hd).mpr fun a => by
    rw [List.mem_filter, List.mem_range, decide_eq_true_eq]
    exact ⟨fun h => h.2, fun h => ⟨hl a h, h⟩⟩
  refine List.Perm.eq_of_pairwise (le := fun a b => a ≤ b) (fun a b _ _ h1 h2 => Nat.le_antisymm h1 h2) ?_ ?_ (p1.trans p2.symm)
  · have := List.pairwise_mergeSort (le := fun a b : Nat => decide (a ≤ b)) (fun a b c h1 h2 => by simp at *; omega) (fun a b => by simp; omega) B
    exact this.imp fun h => by simpa using h
  · exact (List.pairwise_lt_range.imp Nat.le_of_lt).filter _
theorem sortable_nI (ks : List Nat) : PySem.W.AllAlike (nI ks) ∧ PySem.W.Sortable (nI ks) ∧ ∀ d ∈ nI ks, d.depth ≤ 40 :=
  ⟨PySem.W.AllAlike.of fun _ _ => by simp [PySem.W.alike], PySem.W.Sortable.others fun b => ⟨PyData.noConfusion, fun _ => PyData.noConfusion⟩, fun d hd => by
    obtain ⟨p, _, rfl⟩ := List.mem_map.mp hd
    simp [PyData.depth]⟩
end Law

namespace Law
open PySem PySem.Spec PyProof.Rows L2 TR
theorem zeros (n : Nat) (c : Int) : (List.replicate ((n : Int)).toNat [PyData.int c]).flatten = (List.replicate n c).map .int := by
  rw [Int.toNat_natCast]
  have flat_rep : ∀ (m : Nat) (x : PyData), (List.replicate m [x]).flatten = List.replicate m x := fun m x => by
    induction m with
    | zero => rfl
    | succ m ih => rw [List.replicate_succ, List.flatten_cons, ih]; rfl
  rw [flat_rep, List.map_replicate]
theorem gI {xs : List Int} {k : Nat} (hk : k < xs.length) : (xs.map PyData.int)[k]? = some (.int (num xs k)) := by
  rw [List.getElem?_map, List.getElem?_eq_getElem hk]
  simp [num, List.getD, hk]
theorem gE {es : Eg} {k : Nat} (hk : k < es.length) : (es.map pr)[k]? = some (pr (eg es k)) := by
  rw [List.getElem?_map, List.getElem?_eq_getElem hk]
  simp [eg, List.getD, hk]
theorem ixN_nat {m k : Nat} (hk : k < m) : ixN m (k : Int) = some k := by
  unfold ixN
  rw [if_pos (by omega), if_pos (by omega)]
  simp
/-- the roads that may burn now, in order -/
def opens (es : Eg) (B gone : List Nat) (j : Nat) : List Nat := (List.range j).filter (opn es B gone)
theorem opens_succ (es : Eg) (B gone : List Nat) (j : Nat) : opens es B gone (j + 1) = if opn es B gone j then opens es B gone j ++ [j] else opens es B gone j := by
  unfold opens
  rw [List.range_succ, List.filter_append]
  cases h : opn es B gone j <;> simp [h]
theorem enumD_drop {es : Eg} {j : Nat} (hj : j < es.length) : enumD j ((es.drop j).map pr) = .tuple [.int (j : Int), pr (eg es j)] :: enumD (j + 1) ((es.drop (j + 1)).map pr) := by
  rw [List.drop_eq_getElem_cons hj, List.map_cons]
  have : eg es j = es[j] := by simp [eg, List.getD, hj]
  rw [this]
  rfl
def pre (n : Nat) (es : Eg) (pu : List Int) (root : Nat) : Prop := 1 ≤ n ∧ n ≤ 8 ∧ edgesOk n es ∧ es.length ≤ 100 ∧ pu.length = n ∧ root < n ∧ ∀ h, h < n → 0 ≤ num pu h
def sp__law_any_fire : List Va → (Va → Prop) → Prop := fun vas Q => ∃ (n : Nat) (es : Eg) (pu : List Int) (root : Nat), vas = [.dk, .fz (tw n es), .fz (.int (root : Int)), .fz (tI pu)] ∧ pre n es pu root ∧ ∀ B, Fire n es pu root B → Q (.nw (nI (canon n B)))
theorem den_any_fire {vas : List Va} {Q : Va → Prop} (h : sp__law_any_fire vas Q) : den__law_any_fire sp__law_pick { nx := fun _ => Q (.fz .none), rt := Q } (ρ0 ["deck", "town", "root", "purse", "burning", "gone", "counts", "step", "some", "k", "one", "other", "house"] vas) := by
  obtain ⟨n, es, pu, root, rfl, ⟨hn1, hn8, hok, hel, hpl, hr, hp0⟩, q⟩ := h
  have big : 1000000 ≤ sizeLine := line (by decide)
  have ret : ∀ (x5 x6 x7 x8 x9 x10 x11 x12 : Sl) (B : List Nat), Fire n es pu root B → vRet (calV sortC (consA (varV 4) nilA)) { nx := fun _ => Q (.fz .none), rt := Q } [.dk, .fz (tw n es), .fz (.int (root : Int)), .fz (tI pu), .ow (nI B), x5, x6, x7, x8, x9, x10, x11, x12] := fun x5 x6 x7 x8 x9 x10 x11 x12 B f => by
    obtain ⟨s1, s2, s3⟩ := sortable_nI B
    have hl : (nI B).length ≤ sizeLine := by
      rw [List.length_map]
      have := List.Nodup.length_le_of_subset f.nd (l₂ := List.range n) fun b hb => List.mem_range.mpr (f.lt b hb)
      rw [List.length_range] at this
      omega
    refine ⟨⟨s1, s2, s3, hl⟩, trivial, ?_⟩
    rw [sort_nI f.nd f.lt]
    exact q B f
  refine ⟨line (k := 1) (by decide), ?_⟩
  refine ⟨line (k := 0) (by decide), ?_⟩
  refine ⟨line (k := 1) (by decide), ?_⟩
  refine ⟨_, atI_nat (j := 0) rfl, ?_⟩
  refine ⟨⟨by omega, by omega, by simp; omega⟩, ?_⟩
  rw [zeros]
  dsimp only [setV, List.set]
  refine ⟨_, atI_nat (j := 1) rfl, ?_⟩
  refine ⟨by simp <;> omega, by simp <;> omega, ?_⟩
  refine forV_ind (fun items ρ => ∃ (B gone : List Nat) (cs : List Int) (x7 x8 x9 x10 x11 x12 : Sl), ρ = [.dk, .fz (tw n es), .fz (.int (root : Int)), .fz (tI pu), .ow (nI B), .ow (nI gone), .ow (cs.map .int), x7, x8, x9, x10, x11, x12] ∧ Burn n es pu root B gone cs ∧ gone.length + items.length = es.length)
    (fun d ds ρ N hI hN => ?_) (fun ρ hI => ?_) _ _ ⟨[root], [], List.replicate n 0, .un, .un, .un, .un, .un, .un, rfl, Burn.start hr hp0, by simp [rgD]⟩
  rotate_left
  · obtain ⟨B, gone, cs, x7, x8, x9, x10, x11, x12, rfl, b, hl⟩ := hI
    exact ret (.ow (nI gone)) (.ow (cs.map .int)) x7 x8 x9 x10 x11 x12 B (b.all hok hl)
  obtain ⟨B, gone, cs, x7, x8, x9, x10, x11, x12, rfl, b, hl⟩ := hI
  rw [List.length_cons] at hl
  refine ⟨line (k := 0) (by decide), ?_⟩
  dsimp only [setV, List.set]
  refine ⟨_, atI_nat (j := 1) rfl, ?_⟩
  refine forV_ind (fun items ρ => ∃ (j : Nat) (y9 y10 y11 : Sl), j ≤ es.length ∧ items = enumD j ((es.drop j).map pr) ∧ ρ = [.dk, .fz (tw n es), .fz (.int (root : Int)), .fz (tI pu), .ow (nI B), .ow (nI gone), .ow (cs.map .int), .fz d, .ow (nI (opens es B gone j)), y9, y10, y11, x12])
    (fun d2 ds2 ρ N2 hI2 hN2 => ?_) (fun ρ hI2 => ?_) _ _ ⟨0, x9, x10, x11, Nat.zero_le _, rfl, rfl⟩
  · obtain ⟨j, y9, y10, y11, hj, hi, rfl⟩ := hI2
    by_cases hj2 : j < es.length
    · rw [enumD_drop hj2] at hi
      cases hi
      have next : ∀ y8, y8 = Sl.ow (nI (opens es B gone (j + 1))) → N2 [.dk, .fz (tw n es), .fz (.int (root : Int)), .fz (tI pu), .ow (nI B), .ow (nI gone), .ow (cs.map .int), .fz d, y8, .fz (.int (j : Int)), .fz (.int ((eg es j).1 : Int)), .fz (.int ((eg es j).2 : Int)), x12] := fun y8 hy => by
        subst hy
        exact hN2 _ ⟨j + 1, _, _, _, hj2, rfl, rfl⟩
      refine ⟨rfl, rfl, ?_⟩
      have C := opn_ev (es := es) (k := j) (B := B) (gone := gone) (ik := 9) (io := 10) (it := 11) (ig := 5) (ib := 4) (ρ := [.dk, .fz (tw n es), .fz (.int (root : Int)), .fz (tI pu), .ow (nI B), .ow (nI gone), .ow (cs.map .int), .fz d, .ow (nI (opens es B gone j)), .fz (.int (j : Int)), .fz (.int ((eg es j).1 : Int)), .fz (.int ((eg es j).2 : Int)), x12]) rfl rfl rfl rfl rfl
      refine C _ ?_
      have es' := opens_succ es B gone j
      cases ho : opn es B gone j with
      | true =>
        rw [ho, if_pos rfl] at es'
        refine ite_tt rfl ?_
        refine ⟨?_, next _ (by rw [es']; simp)⟩
        have : (opens es B gone j).length ≤ j := by
          unfold opens
          exact Nat.le_trans (List.length_filter_le ..) (by rw [List.length_range]; exact Nat.le_refl _)
        rw [List.length_map]
        omega
      | false =>
        rw [ho, if_neg Bool.false_ne_true] at es'
        refine ite_ff rfl ?_
        exact next _ (by rw [es'])
    · have : es.drop j = [] := List.drop_eq_nil_of_le (by omega)
      rw [this] at hi
      cases hi
  · obtain ⟨j, y9, y10, y11, hj, hi, rfl⟩ := hI2
    have hje : j = es.length := by
      refine Classical.byContradiction fun z => ?_
      rw [enumD_drop (by omega)] at hi
      cases hi
    subst hje
    refine ⟨line (k := 0) (by decide), sh_nI _, shaped_nil, ?_⟩
    show if PyData.eqv (.list (nI (opens es B gone es.length))) (.list []) = true then _ else _
    rw [eqv_nil]
    cases hos : opens es B gone es.length with
    | nil =>
      refine ite_tt rfl ?_
      exact ret (.ow (nI gone)) (.ow (cs.map .int)) (.fz d) (.ow []) y9 y10 y11 x12 B (b.done hok fun k hk => by
        have := List.filter_eq_nil_iff.mp hos k (List.mem_range.mpr hk)
        simpa using this)
    | cons o os =>
      refine ite_ff rfl ?_
      rw [← hos]
      have hlen : (nI (opens es B gone es.length)).length ≤ 1000000 := by
        rw [List.length_map]
        have : (opens es B gone es.length).length ≤ es.length := by
          unfold opens
          exact Nat.le_trans (List.length_filter_le ..) (by rw [List.length_range]; exact Nat.le_refl _)
        omega
      refine ⟨.br _, nI (opens es B gone es.length), rfl, .inr (.inl rfl), by rw [hos]; simp, hlen, fun dk hdk _ => ?_⟩
      obtain ⟨k, hk0, rfl⟩ := List.mem_map.mp hdk
      obtain ⟨hk1, ho⟩ := List.mem_filter.mp hk0
      have hk : k < es.length := List.mem_range.mp hk1
      obtain ⟨st1, st2, st3, st4⟩ := b.step hok hk ho rfl
      have gl : gone.length < es.length := by omega
      dsimp only [setV, List.set]
      refine ⟨_, atI_nat (j := 1) rfl, ?_⟩
      refine ⟨_, atI_nat (gE hk), ?_⟩
      refine ⟨rfl, ?_⟩
      have rest : ∀ h : Nat, h = (if (eg es k).1 ∈ B then (eg es k).2 else (eg es k).1) → vSeq (frzT 9 (vAppend 5 (pureX (varV 9))))
          (vSeq (vStoreT 6 (eOp addV (eOp idxV (varV 6) (varV 12)) (conV (.int 1))) (varV 12))
          (vIf (bV (eOp (ordV fun i j => decide (j < i)) (eOp idxV (varV 6) (varV 12)) (eOp idxV (varV 3) (varV 12)))) (frzT 12 (vAppend 4 (pureX (varV 12)))) vNext))
          { nx := N, rt := Q, ct := N, bk := vRet (calV sortC (consA (varV 4) nilA)) { nx := fun _ => Q (.fz .none), rt := Q } }
          [.dk, .fz (tw n es), .fz (.int (root : Int)), .fz (tI pu), .ow (nI B), .ow (nI gone), .ow (cs.map .int), .fz d, .ow (nI (opens es B gone es.length)), .fz (.int (k : Int)), .fz (.int ((eg es k).1 : Int)), .fz (.int ((eg es k).2 : Int)), .fz (.int (h : Int))] := fun h hh => by
        obtain ⟨st1, st2, st3, st4⟩ := b.step hok hk ho hh
        have hcl : h < cs.length := by rw [b.cl]; exact st1
        have e5 : nI gone ++ [PyData.int (k : Int)] = nI (gone ++ [k]) := by simp
        have e6 : (cs.map PyData.int).set h (.int (num cs h + 1)) = (cs.set h (num cs h + 1)).map .int := by rw [List.map_set]
        have g6 : ((cs.set h (num cs h + 1)).map PyData.int)[h]? = some (.int (num cs h + 1)) := by
          rw [List.getElem?_map, List.getElem?_set_self hcl]
          rfl
        have bl : B.length ≤ 8 := by
          have := List.Nodup.length_le_of_subset b.nd (l₂ := List.range n) fun c hc => List.mem_range.mpr (b.lt c hc)
          rw [List.length_range] at this
          omega
        refine ⟨by rw [List.length_map]; omega, ?_⟩
        rw [e5]
        dsimp only [List.set]
        refine ⟨⟨_, rfl⟩, ?_⟩
        refine ⟨_, atI_nat (gI hcl), ?_⟩
        refine ⟨h, ixN_nat (by rw [List.length_map]; exact hcl), ?_⟩
        rw [e6]
        dsimp only [List.set]
        refine ⟨_, atI_nat g6, ?_⟩
        refine ⟨_, atI_nat (gI (xs := pu) (k := h) (by omega)), ?_⟩
        by_cases hc : num pu h < num cs h + 1
        · refine ite_tt (decide_eq_true hc) ?_
          refine ⟨by rw [List.length_map]; omega, hN _ ⟨B ++ [h], gone ++ [k], cs.set h (num cs h + 1), .fz d, .ow (nI (opens es B gone es.length)), .fz (.int (k : Int)), .fz (.int ((eg es k).1 : Int)), .fz (.int ((eg es k).2 : Int)), .fz (.int (h : Int)), ?_, st4 hc, by simp; omega⟩⟩
          rw [show nI (B ++ [h]) = nI B ++ [PyData.int (h : Int)] by simp]
          rfl
        · refine ite_ff (decide_eq_false hc) ?_
          exact hN _ ⟨B, gone ++ [k], cs.set h (num cs h + 1), .fz d, .ow (nI (opens es B gone es.length)), .fz (.int (k : Int)), .fz (.int ((eg es k).1 : Int)), .fz (.int ((eg es k).2 : Int)), .fz (.int (h : Int)), rfl, st3 hc, by simp; omega⟩
      refine ⟨sh_int _, sh_nI B, ?_⟩
      show if inD false (nI B) (.int ((eg es k).1 : Int)) = true then _ else _
      rw [inD_nat]
      show if decide ((eg es k).1 ∈ B) = true then _ else _
      by_cases h1 : (eg es k).1 ∈ B
      · refine ite_tt (decide_eq_true h1) ?_
        exact rest (eg es k).2 (by rw [if_pos h1])
      · refine ite_ff (decide_eq_false h1) ?_
        exact rest (eg es k).1 (by rw [if_neg h1])
end Law

namespace Law
open PySem PySem.Spec PyProof.Rows L2 TR
/-- what holds of the law's own fire whatever decides -/
structure Wk (n : Nat) (es : Eg) (B gone : List Nat) (cs : List Int) (tk : List Nat) (co : List Int) : Prop where
  nd : B.Nodup
  lt : ∀ b ∈ B, b < n
  cl : cs.length = n
  cb : ∀ i, 0 ≤ num cs i ∧ num cs i ≤ gone.length
  tl : tk.length ≤ gone.length
  ol : co.length = n
  ob : ∀ x ∈ co, 0 ≤ x ∧ x ≤ 100
def houseOf (es : Eg) (B : List Nat) (k : Nat) : Nat := if (eg es k).1 ∈ B then (eg es k).2 else (eg es k).1
theorem houseOf_ok {n : Nat} {es : Eg} (hok : edgesOk n es) {B gone : List Nat} {k : Nat} (hk : k < es.length) (ho : opn es B gone k = true) : houseOf es B k < n ∧ houseOf es B k ∉ B := by
  have hb := eg_ok hok hk
  unfold opn at ho
  simp only [Bool.and_eq_true, decide_eq_true_eq, bne_iff_ne, ne_eq] at ho
  obtain ⟨hg, hx⟩ := ho
  unfold houseOf
  by_cases e : (eg es k).1 ∈ B
  · rw [if_pos e]
    exact ⟨hb.2, fun z => hx (by simp [e, z])⟩
  · rw [if_neg e]
    exact ⟨by omega, e⟩
theorem Wk.start {n : Nat} {es : Eg} {root : Nat} (hr : root < n) : Wk n es [root] [] (List.replicate n 0) [] (List.replicate n 0) := by
  refine ⟨by simp, by simpa using hr, by simp, fun i => ?_, Nat.le_refl _, by simp, fun x hx => by rw [(List.mem_replicate.mp hx).2]; omega⟩
  have : num (List.replicate n 0) i = 0 := by
    unfold num
    rw [List.getD_eq_getElem?_getD, List.getElem?_replicate]
    split <;> rfl
  rw [this]
  simp
theorem Wk.step {n : Nat} {es : Eg} (hok : edgesOk n es) (hel : es.length ≤ 100) {B gone : List Nat} {cs : List Int} {tk : List Nat} {co : List Int} (w : Wk n es B gone cs tk co) {k : Nat} (hk : k < es.length) (ho : opn es B gone k = true) (gl : gone.length < es.length) :
    Wk n es B (gone ++ [k]) (cs.set (houseOf es B k) (num cs (houseOf es B k) + 1)) tk co ∧
    Wk n es (B ++ [houseOf es B k]) (gone ++ [k]) (cs.set (houseOf es B k) (num cs (houseOf es B k) + 1)) (tk ++ [k]) (co.set (houseOf es B k) (num cs (houseOf es B k) + 1 - 1)) := by
  obtain ⟨h1, h2⟩ := houseOf_ok hok hk ho
  generalize houseOf es B k = h at *
  have cb : ∀ i, 0 ≤ num (cs.set h (num cs h + 1)) i ∧ num (cs.set h (num cs h + 1)) i ≤ ((gone ++ [k]).length : Int) := fun i => by
    rw [num_set (by rw [w.cl]; exact h1), List.length_append]
    have a := w.cb i
    have b := w.cb h
    split
    · simp; omega
    · simp; omega
  refine ⟨⟨w.nd, w.lt, by rw [List.length_set]; exact w.cl, cb, by rw [List.length_append]; have := w.tl; omega, w.ol, w.ob⟩, ⟨?_, fun c hc => ?_, by rw [List.length_set]; exact w.cl, cb, by simp; exact w.tl, by rw [List.length_set]; exact w.ol, fun x hx => ?_⟩⟩
  · rw [List.nodup_append]
    exact ⟨w.nd, by simp, fun a ha c hc => by rw [List.mem_singleton.mp hc]; exact fun z => h2 (z ▸ ha)⟩
  · rcases List.mem_append.mp hc with hc | hc
    · exact w.lt c hc
    · rw [List.mem_singleton.mp hc]; exact h1
  · rcases List.mem_or_eq_of_mem_set hx with hx | hx
    · exact w.ob x hx
    · have b := w.cb h
      rw [hx]
      omega
theorem Wk.bl {n : Nat} {es : Eg} {B gone : List Nat} {cs : List Int} {tk : List Nat} {co : List Int} (w : Wk n es B gone cs tk co) : B.length ≤ n := by
  have := List.Nodup.length_le_of_subset w.nd (l₂ := List.range n) fun c hc => List.mem_range.mpr (w.lt c hc)
  rw [List.length_range] at this
  exact this
def condF : VTT := orT (andT (bV (eOp (isNV false) (varV 3) (conV .none))) (bV (eOp (ordV fun i j => decide (j < i)) (eOp idxV (varV 7) (varV 14)) (eOp idxV (varV 2) (varV 14))))) (andT (bV (eOp (isNV true) (varV 3) (conV .none))) (bV (eOp (TR.inV false) (varV 11) (varV 3))))
theorem fire_core {n : Nat} {es : Eg} {root : Nat} {P T : PyData} {Q : Va → Prop} (hn1 : 1 ≤ n) (hn8 : n ≤ 8) (hok : edgesOk n es) (hel : es.length ≤ 100) (hr : root < n)
    (cnd : List Int → Nat → Nat → Bool)
    (hc : ∀ (cs : List Int) (k h : Nat) (x4 x5 x6 x8 x9 x10 x12 x13 : Sl) (F : Bool → Prop), h < n → cs.length = n → F (cnd cs k h) → condF [.fz (tw n es), .fz (.int (root : Int)), .fz P, .fz T, x4, x5, x6, .ow (cs.map .int), x8, x9, x10, .fz (.int (k : Int)), x12, x13, .fz (.int (h : Int))] F)
    (J : List Nat → List Nat → List Int → Prop) (J0 : J [root] [] (List.replicate n 0))
    (Js : ∀ B gone cs k, J B gone cs → k < es.length → opn es B gone k = true → J (if cnd (cs.set (houseOf es B k) (num cs (houseOf es B k) + 1)) k (houseOf es B k) then B ++ [houseOf es B k] else B) (gone ++ [k]) (cs.set (houseOf es B k) (num cs (houseOf es B k) + 1)))
    (fin : ∀ B gone cs tk co (g t : PyData), J B gone cs → Wk n es B gone cs tk co → (gone.length = es.length ∨ ∀ k, k < es.length → opn es B gone k = false) → Q (.fz (.tuple [g, t, tI co, .list (nI B)]))) :
    den__law_fire { nx := fun _ => Q (.fz .none), rt := Q } (ρ0 ["town", "root", "purse", "tree", "burning", "gone", "taken", "counts", "coins", "step", "open_ones", "k", "one", "other", "house"] [.fz (tw n es), .fz (.int (root : Int)), .fz P, .fz T]) := by
  have big : 1000000 ≤ sizeLine := line (by decide)
  have ret : ∀ (x9 x10 x11 x12 x13 x14 : Sl) (B gone : List Nat) (cs : List Int) (tk : List Nat) (co : List Int), J B gone cs → Wk n es B gone cs tk co → gone.length ≤ es.length → (gone.length = es.length ∨ ∀ k, k < es.length → opn es B gone k = false) →
      (frzT 4 (vRet (tupV (consL (frzV (calV tupC (consA (varV 5) nilA))) (consL (frzV (calV tupC (consA (calV sortC (consA (varV 6) nilA)) nilA))) (consL (frzV (calV tupC (consA (varV 8) nilA))) (consL (frzV (varV 4)) nilL))))))) { nx := fun _ => Q (.fz .none), rt := Q }
        [.fz (tw n es), .fz (.int (root : Int)), .fz P, .fz T, .ow (nI B), .ow (nI gone), .ow (nI tk), .ow (cs.map .int), .ow (co.map .int), x9, x10, x11, x12, x13, x14] := fun x9 x10 x11 x12 x13 x14 B gone cs tk co j w hgl he => by
    obtain ⟨s1, s2, s3⟩ := sortable_nI tk
    refine ⟨⟨s1, s2, s3, by rw [List.length_map]; have := w.tl; omega⟩, ?_⟩
    exact ⟨line (k := 4) (by decide), trivial, fin B gone cs tk co _ _ j w he⟩
  refine ⟨line (k := 1) (by decide), ?_⟩
  refine ⟨line (k := 0) (by decide), ?_⟩
  refine ⟨line (k := 0) (by decide), ?_⟩
  refine ⟨line (k := 1) (by decide), ?_⟩
  refine ⟨_, atI_nat (j := 0) rfl, ?_⟩
  refine ⟨⟨by omega, by omega, by simp; omega⟩, ?_⟩
  rw [zeros]
  refine ⟨line (k := 1) (by decide), ?_⟩
  refine ⟨_, atI_nat (j := 0) rfl, ?_⟩
  refine ⟨⟨by omega, by omega, by simp; omega⟩, ?_⟩
  rw [zeros]
  dsimp only [setV, List.set]
  refine ⟨_, atI_nat (j := 1) rfl, ?_⟩
  refine ⟨by simp <;> omega, by simp <;> omega, ?_⟩
  refine forV_ind (fun items ρ => ∃ (B gone tk : List Nat) (cs co : List Int) (x9 x10 x11 x12 x13 x14 : Sl), ρ = [.fz (tw n es), .fz (.int (root : Int)), .fz P, .fz T, .ow (nI B), .ow (nI gone), .ow (nI tk), .ow (cs.map .int), .ow (co.map .int), x9, x10, x11, x12, x13, x14] ∧ J B gone cs ∧ Wk n es B gone cs tk co ∧ gone.length + items.length = es.length)
    (fun d ds ρ N hI hN => ?_) (fun ρ hI => ?_) _ _ ⟨[root], [], [], List.replicate n 0, List.replicate n 0, .un, .un, .un, .un, .un, .un, rfl, J0, Wk.start hr, by simp [rgD]⟩
  rotate_left
  · obtain ⟨B, gone, tk, cs, co, x9, x10, x11, x12, x13, x14, rfl, j, w, hl⟩ := hI
    have hl : gone.length = es.length := hl
    exact ret x9 x10 x11 x12 x13 x14 B gone cs tk co j w (by omega) (.inl hl)
  obtain ⟨B, gone, tk, cs, co, x9, x10, x11, x12, x13, x14, rfl, jj, w, hl⟩ := hI
  rw [List.length_cons] at hl
  refine ⟨line (k := 0) (by decide), ?_⟩
  dsimp only [setV, List.set]
  refine ⟨_, atI_nat (j := 1) rfl, ?_⟩
  refine forV_ind (fun items ρ => ∃ (j : Nat) (y11 y12 y13 : Sl), j ≤ es.length ∧ items = enumD j ((es.drop j).map pr) ∧ ρ = [.fz (tw n es), .fz (.int (root : Int)), .fz P, .fz T, .ow (nI B), .ow (nI gone), .ow (nI tk), .ow (cs.map .int), .ow (co.map .int), .fz d, .ow (nI (opens es B gone j)), y11, y12, y13, x14])
    (fun d2 ds2 ρ N2 hI2 hN2 => ?_) (fun ρ hI2 => ?_) _ _ ⟨0, x11, x12, x13, Nat.zero_le _, rfl, rfl⟩
  · obtain ⟨j, y11, y12, y13, hj, hi, rfl⟩ := hI2
    by_cases hj2 : j < es.length
    · rw [enumD_drop hj2] at hi
      cases hi
      have next : ∀ y10, y10 = Sl.ow (nI (opens es B gone (j + 1))) → N2 [.fz (tw n es), .fz (.int (root : Int)), .fz P, .fz T, .ow (nI B), .ow (nI gone), .ow (nI tk), .ow (cs.map .int), .ow (co.map .int), .fz d, y10, .fz (.int (j : Int)), .fz (.int ((eg es j).1 : Int)), .fz (.int ((eg es j).2 : Int)), x14] := fun y10 hy => by
        subst hy
        exact hN2 _ ⟨j + 1, _, _, _, hj2, rfl, rfl⟩
      refine ⟨rfl, rfl, ?_⟩
      have C := opn_ev (es := es) (k := j) (B := B) (gone := gone) (ik := 11) (io := 12) (it := 13) (ig := 5) (ib := 4) (ρ := [.fz (tw n es), .fz (.int (root : Int)), .fz P, .fz T, .ow (nI B), .ow (nI gone), .ow (nI tk), .ow (cs.map .int), .ow (co.map .int), .fz d, .ow (nI (opens es B gone j)), .fz (.int (j : Int)), .fz (.int ((eg es j).1 : Int)), .fz (.int ((eg es j).2 : Int)), x14]) rfl rfl rfl rfl rfl
      refine C _ ?_
      have es' := opens_succ es B gone j
      cases ho : opn es B gone j with
      | true =>
        rw [ho, if_pos rfl] at es'
        refine ite_tt rfl ?_
        refine ⟨?_, next _ (by rw [es']; simp)⟩
        have : (opens es B gone j).length ≤ j := by
          unfold opens
          exact Nat.le_trans (List.length_filter_le ..) (by rw [List.length_range]; exact Nat.le_refl _)
        rw [List.length_map]
        omega
      | false =>
        rw [ho, if_neg Bool.false_ne_true] at es'
        refine ite_ff rfl ?_
        exact next _ (by rw [es'])
    · have : es.drop j = [] := List.drop_eq_nil_of_le (by omega)
      rw [this] at hi
      cases hi
  · obtain ⟨j, y11, y12, y13, hj, hi, rfl⟩ := hI2
    have hje : j = es.length := by
      refine Classical.byContradiction fun z => ?_
      rw [enumD_drop (by omega)] at hi
      cases hi
    subst hje
    refine ⟨line (k := 0) (by decide), sh_nI _, shaped_nil, ?_⟩
    show if PyData.eqv (.list (nI (opens es B gone es.length))) (.list []) = true then _ else _
    rw [eqv_nil]
    cases hos : opens es B gone es.length with
    | nil =>
      refine ite_tt rfl ?_
      exact ret (.fz d) (.ow []) y11 y12 y13 x14 B gone cs tk co jj w (by omega) (.inr fun k hk => by
        have := List.filter_eq_nil_iff.mp hos k (List.mem_range.mpr hk)
        simpa using this)
    | cons o os =>
      refine ite_ff rfl ?_
      rw [← hos]
      have hne : opens es B gone es.length ≠ [] := by rw [hos]; simp
      have el : (opens es B gone es.length) = (opens es B gone es.length).dropLast ++ [(opens es B gone es.length).getLast hne] := (List.dropLast_concat_getLast hne).symm
      have hk0 := List.getLast_mem hne
      generalize (opens es B gone es.length).getLast hne = k at el hk0
      obtain ⟨hk1, ho⟩ := List.mem_filter.mp hk0
      have hk : k < es.length := List.mem_range.mp hk1
      have gl : gone.length < es.length := by omega
      refine ⟨.int (k : Int), by rw [el, nI, List.map_append]; exact atI_last _ _, ?_⟩
      dsimp only [setV, List.set]
      refine ⟨_, atI_nat (j := 1) rfl, ?_⟩
      refine ⟨_, atI_nat (gE hk), ?_⟩
      refine ⟨rfl, ?_⟩
      obtain ⟨w1, w2⟩ := w.step hok hel hk ho gl
      have J2 := Js B gone cs k jj hk ho
      obtain ⟨st1, st2⟩ := houseOf_ok hok hk ho
      have rest : ∀ h : Nat, h = houseOf es B k → vSeq (frzT 11 (vAppend 5 (pureX (varV 11))))
          (vSeq (vStoreT 7 (eOp addV (eOp idxV (varV 7) (varV 14)) (conV (.int 1))) (varV 14))
          (vIf condF (vSeq (frzT 14 (vAppend 4 (pureX (varV 14))))
            (vSeq (frzT 11 (vAppend 6 (pureX (varV 11))))
            (vStoreT 8 (eOp subV (eOp idxV (varV 7) (varV 14)) (conV (.int 1))) (varV 14)))) vNext))
          { nx := N, rt := Q, ct := N, bk := (frzT 4 (vRet (tupV (consL (frzV (calV tupC (consA (varV 5) nilA))) (consL (frzV (calV tupC (consA (calV sortC (consA (varV 6) nilA)) nilA))) (consL (frzV (calV tupC (consA (varV 8) nilA))) (consL (frzV (varV 4)) nilL))))))) { nx := fun _ => Q (.fz .none), rt := Q } }
          [.fz (tw n es), .fz (.int (root : Int)), .fz P, .fz T, .ow (nI B), .ow (nI gone), .ow (nI tk), .ow (cs.map .int), .ow (co.map .int), .fz d, .ow (nI (opens es B gone es.length)), .fz (.int (k : Int)), .fz (.int ((eg es k).1 : Int)), .fz (.int ((eg es k).2 : Int)), .fz (.int (h : Int))] := fun h hh => by
        rw [← hh] at w1 w2 J2 st1 st2
        have hcl : h < cs.length := by rw [w.cl]; exact st1
        have hol : h < co.length := by rw [w.ol]; exact st1
        have e5 : nI gone ++ [PyData.int (k : Int)] = nI (gone ++ [k]) := by simp
        have e6 : (cs.map PyData.int).set h (.int (num cs h + 1)) = (cs.set h (num cs h + 1)).map .int := by rw [List.map_set]
        have e7 : nI tk ++ [PyData.int (k : Int)] = nI (tk ++ [k]) := by simp
        have e4 : nI B ++ [PyData.int (h : Int)] = nI (B ++ [h]) := by simp
        have e8 : (co.map PyData.int).set h (.int (num cs h + 1 - 1)) = (co.set h (num cs h + 1 - 1)).map .int := by rw [List.map_set]
        have g6 : ((cs.set h (num cs h + 1)).map PyData.int)[h]? = some (.int (num cs h + 1)) := by
          rw [List.getElem?_map, List.getElem?_set_self hcl]
          rfl
        have bl := w.bl
        have tl := w.tl
        refine ⟨by rw [List.length_map]; omega, ?_⟩
        rw [e5]
        dsimp only [List.set]
        refine ⟨⟨_, rfl⟩, ?_⟩
        refine ⟨_, atI_nat (gI hcl), ?_⟩
        refine ⟨h, ixN_nat (by rw [List.length_map]; exact hcl), ?_⟩
        rw [e6]
        dsimp only [List.set]
        refine hc (cs.set h (num cs h + 1)) k h _ _ _ _ _ _ _ _ _ st1 (by rw [List.length_set]; exact w.cl) ?_
        cases hcd : cnd (cs.set h (num cs h + 1)) k h with
        | true =>
          rw [hcd, if_pos rfl] at J2
          refine ite_tt rfl ?_
          refine ⟨by rw [List.length_map]; omega, ?_⟩
          rw [e4]
          dsimp only [List.set]
          refine ⟨by rw [List.length_map]; omega, ?_⟩
          rw [e7]
          dsimp only [List.set]
          refine ⟨⟨_, rfl⟩, ?_⟩
          refine ⟨_, atI_nat g6, ?_⟩
          refine ⟨h, ixN_nat (by rw [List.length_map]; exact hol), ?_⟩
          rw [e8]
          exact hN _ ⟨B ++ [h], gone ++ [k], tk ++ [k], cs.set h (num cs h + 1), co.set h (num cs h + 1 - 1), .fz d, .ow (nI (opens es B gone es.length)), .fz (.int (k : Int)), .fz (.int ((eg es k).1 : Int)), .fz (.int ((eg es k).2 : Int)), .fz (.int (h : Int)), rfl, J2, w2, by simp; omega⟩
        | false =>
          rw [hcd, if_neg Bool.false_ne_true] at J2
          refine ite_ff rfl ?_
          exact hN _ ⟨B, gone ++ [k], tk, cs.set h (num cs h + 1), co, .fz d, .ow (nI (opens es B gone es.length)), .fz (.int (k : Int)), .fz (.int ((eg es k).1 : Int)), .fz (.int ((eg es k).2 : Int)), .fz (.int (h : Int)), rfl, J2, w1, by simp; omega⟩
      refine ⟨sh_int _, sh_nI B, ?_⟩
      show if inD false (nI B) (.int ((eg es k).1 : Int)) = true then _ else _
      rw [inD_nat]
      show if decide ((eg es k).1 ∈ B) = true then _ else _
      by_cases h1 : (eg es k).1 ∈ B
      · refine ite_tt (decide_eq_true h1) ?_
        exact rest (eg es k).2 (by unfold houseOf; rw [if_pos h1])
      · refine ite_ff (decide_eq_false h1) ?_
        exact rest (eg es k).1 (by unfold houseOf; rw [if_neg h1])
end Law

namespace Law
open PySem PySem.Spec PyProof.Rows L2 TR
def sp__law_fire : List Va → (Va → Prop) → Prop := fun vas Q => ∃ (n : Nat) (es : Eg) (root : Nat) (P T : PyData), vas = [.fz (tw n es), .fz (.int (root : Int)), .fz P, .fz T] ∧
  ((∃ pu, P = tI pu ∧ T = .none ∧ pre n es pu root ∧ ∀ g t co B, Fire n es pu root B → Q (.fz (.tuple [g, t, tI co, .list (nI B)]))) ∨
   (∃ ts : List Nat, P = .none ∧ T = .tuple (nI ts) ∧ 1 ≤ n ∧ n ≤ 8 ∧ edgesOk n es ∧ es.length ≤ 100 ∧ root < n ∧ ∀ g t co B, co.length = n → (∀ x ∈ co, 0 ≤ x ∧ x ≤ 100) → Q (.fz (.tuple [g, t, tI co, B]))))
theorem all_flat (ts : List Nat) : (nI ts).all flatD = true := List.all_eq_true.mpr fun d hd => by
  obtain ⟨k, _, rfl⟩ := List.mem_map.mp hd
  rfl
theorem den_fire {vas : List Va} {Q : Va → Prop} (h : sp__law_fire vas Q) : den__law_fire { nx := fun _ => Q (.fz .none), rt := Q } (ρ0 ["town", "root", "purse", "tree", "burning", "gone", "taken", "counts", "coins", "step", "open_ones", "k", "one", "other", "house"] vas) := by
  obtain ⟨n, es, root, P, T, rfl, h⟩ := h
  rcases h with ⟨pu, rfl, rfl, ⟨hn1, hn8, hok, hel, hpl, hr, hp0⟩, q⟩ | ⟨ts, rfl, rfl, hn1, hn8, hok, hel, hr, q⟩
  · refine fire_core hn1 hn8 hok hel hr (fun cs _ h => decide (num pu h < num cs h)) (fun cs k h x4 x5 x6 x8 x9 x10 x12 x13 F hh hcl hF => ?_) (fun B gone cs => Burn n es pu root B gone cs) (Burn.start hr hp0) (fun B gone cs k b hk ho => ?_) (fun B gone cs tk co g t b w he => ?_)
    · unfold condF orT andT bV
      refine ⟨_, atI_nat (gI (xs := cs) (k := h) (by omega)), ?_⟩
      refine ⟨_, atI_nat (gI (xs := pu) (k := h) (by omega)), ?_⟩
      show if decide (num pu h < num cs h) = true then _ else _
      by_cases hc : num pu h < num cs h
      · refine ite_tt (decide_eq_true hc) ?_
        rw [decide_eq_true hc] at hF
        exact hF
      · refine ite_ff (decide_eq_false hc) ?_
        rw [decide_eq_false hc] at hF
        exact hF
    · have hb := b.step hok hk ho rfl
      have : (if (eg es k).1 ∈ B then (eg es k).2 else (eg es k).1) = houseOf es B k := rfl
      rw [this] at hb
      obtain ⟨h1, h2, h3, h4⟩ := hb
      have e : num (cs.set (houseOf es B k) (num cs (houseOf es B k) + 1)) (houseOf es B k) = num cs (houseOf es B k) + 1 := by
        rw [num_set (by rw [b.cl]; exact h1), if_pos rfl]
      show Burn n es pu root (if decide (num pu (houseOf es B k) < num (cs.set (houseOf es B k) (num cs (houseOf es B k) + 1)) (houseOf es B k)) = true then B ++ [houseOf es B k] else B) _ _
      rw [e]
      by_cases hc : num pu (houseOf es B k) < num cs (houseOf es B k) + 1
      · rw [if_pos (decide_eq_true hc)]
        exact h4 hc
      · rw [if_neg (by simpa using hc)]
        exact h3 hc
    · rcases he with he | he
      · exact q g t co B (b.all hok he)
      · exact q g t co B (b.done hok he)
  · refine fire_core hn1 hn8 hok hel hr (fun _ k _ => decide (k ∈ ts)) (fun cs k h x4 x5 x6 x8 x9 x10 x12 x13 F hh hcl hF => ?_) (fun B gone cs => True) trivial (fun B gone cs k b hk ho => trivial) (fun B gone cs tk co g t b w he => q g t co _ w.ol w.ob)
    unfold condF orT andT bV
    refine ⟨⟨rfl, all_flat ts⟩, ?_⟩
    show F (inD false (nI ts) (.int (k : Int)))
    rw [inD_nat]
    exact hF
end Law

namespace Law
open PySem PySem.Spec PyProof.Rows L2 TR
/-- fire by rounds: A burnt before, F burns now -/
structure Rd (n : Nat) (es : Eg) (pu : List Int) (root : Nat) (A F : List Nat) (ht : List Int) : Prop where
  nd : (A ++ F).Nodup
  lt : ∀ b ∈ A ++ F, b < n
  rt : root ∈ A ++ F
  least : ∀ S, Closed n es pu root S → ∀ b ∈ A ++ F, b ∈ S
  hl : ht.length = n
  hot : ∀ h, h < n → h ∉ A ++ F → num ht h = (deg es A h : Int) ∧ num ht h ≤ num pu h
theorem deg_nil (es : Eg) (h : Nat) : deg es [] h = 0 := by
  unfold deg
  rw [List.length_eq_zero_iff, List.filter_eq_nil_iff]
  intro k _
  simp [con]
theorem Rd.start {n : Nat} {es : Eg} {pu : List Int} {root : Nat} (hr : root < n) (hp : ∀ h, h < n → 0 ≤ num pu h) : Rd n es pu root [] [root] (List.replicate n 0) := by
  refine ⟨by simp, by simpa using hr, by simp, fun S c b hb => ?_, by simp, fun h hn _ => ?_⟩
  · have hb' : b = root := by simpa using hb
    rw [hb']
    exact c.1
  · have : num (List.replicate n 0) h = 0 := by simp [num, List.getD, hn]
    rw [this, deg_nil]
    exact ⟨rfl, hp h hn⟩
theorem deg_add {n : Nat} {es : Eg} (hok : edgesOk n es) {A F : List Nat} (hd : (A ++ F).Nodup) {h : Nat} (hh : h ∉ A ++ F) : deg es (A ++ F) h = deg es A h + deg es F h := by
  have dj : ∀ x ∈ A, x ∉ F := fun x h1 h2 => (List.nodup_append.mp hd).2.2 x h1 x h2 rfl
  have main : ∀ l : List Nat, (∀ k ∈ l, k < es.length) → (l.filter (con es (A ++ F) h)).length = (l.filter (con es A h)).length + (l.filter (con es F h)).length := by
    intro l
    induction l with
    | nil => intro _; rfl
    | cons k l ih =>
      intro hl
      have ih := ih fun j hj => hl j (List.mem_cons_of_mem _ hj)
      have ek := eg_ok hok (hl k (List.mem_cons_self ..))
      have e : con es (A ++ F) h k = (con es A h k || con es F h k) ∧ (con es A h k && con es F h k) = false := by
        unfold con
        refine ⟨?_, ?_⟩
        · rw [Bool.eq_iff_iff]
          simp only [Bool.or_eq_true, decide_eq_true_eq, List.mem_append]
          constructor
          · rintro (⟨a, b | b⟩ | ⟨a, b | b⟩)
            · exact .inl (.inl ⟨a, b⟩)
            · exact .inr (.inl ⟨a, b⟩)
            · exact .inl (.inr ⟨a, b⟩)
            · exact .inr (.inr ⟨a, b⟩)
          · rintro ((⟨a, b⟩ | ⟨a, b⟩) | (⟨a, b⟩ | ⟨a, b⟩))
            · exact .inl ⟨a, .inl b⟩
            · exact .inr ⟨a, .inl b⟩
            · exact .inl ⟨a, .inr b⟩
            · exact .inr ⟨a, .inr b⟩
        · rw [Bool.eq_false_iff]
          intro z
          simp only [Bool.and_eq_true, decide_eq_true_eq] at z
          obtain ⟨a | a, b | b⟩ := z
          · exact dj _ a.2 b.2
          · have := a.1; have := b.1; omega
          · have := a.1; have := b.1; omega
          · exact dj _ a.2 b.2
      rw [List.filter_cons, List.filter_cons, List.filter_cons, e.1]
      have e2 := e.2
      cases h1 : con es A h k <;> cases h2 : con es F h k
      · simpa using ih
      · simp; omega
      · simp; omega
      · rw [h1, h2] at e2; cases e2
  exact main _ fun k hk => List.mem_range.mp hk
/-- the heat after the first j roads -/
def Heat (n : Nat) (es : Eg) (A F : List Nat) (j : Nat) (ht : List Int) : Prop := ht.length = n ∧ ∀ h, h < n → h ∉ A ++ F → num ht h = (deg es A h : Int) + (((List.range j).filter (con es F h)).length : Int)
theorem cnt_succ (es : Eg) (F : List Nat) (h j : Nat) : (((List.range (j + 1)).filter (con es F h)).length : Int) = (((List.range j).filter (con es F h)).length : Int) + (if con es F h j = true then 1 else 0) := by
  rw [List.range_succ, List.filter_append, List.length_append]
  cases e : con es F h j <;> simp [e]
def coldB (n : Nat) (A F : List Nat) (h : Nat) : Bool := decide (h ∈ rest n (A ++ F))
theorem mem_rest {n : Nat} {B : List Nat} {h : Nat} : h ∈ rest n B ↔ h < n ∧ h ∉ B := by
  unfold rest
  rw [List.mem_filter, List.mem_range, decide_eq_true_eq]
theorem Heat.one {n : Nat} {es : Eg} (hok : edgesOk n es) {A F : List Nat} {j : Nat} {ht : List Int} (H : Heat n es A F j ht) (hj : j < es.length) (h1 : (eg es j).1 ∈ F) (h2 : (eg es j).2 ∈ rest n (A ++ F)) : Heat n es A F (j + 1) (ht.set (eg es j).2 (num ht (eg es j).2 + 1)) := by
  have m := mem_rest.mp h2
  have ek := eg_ok hok hj
  refine ⟨by rw [List.length_set]; exact H.1, fun h hn hh => ?_⟩
  rw [num_set (by rw [H.1]; exact m.1), cnt_succ]
  by_cases e : h = (eg es j).2
  · rw [if_pos e, if_pos (by simp [con, e, h1]), ← e, H.2 h hn hh]
    omega
  · have : con es F h j = false := by
      rw [Bool.eq_false_iff]
      intro z
      simp only [con, decide_eq_true_eq] at z
      rcases z with z | z
      · exact m.2 (List.mem_append_right _ z.2)
      · exact e z.1.symm
    rw [if_neg e, if_neg (by rw [this]; exact Bool.false_ne_true), H.2 h hn hh]
    omega
theorem Heat.two {n : Nat} {es : Eg} (hok : edgesOk n es) {A F : List Nat} {j : Nat} {ht : List Int} (H : Heat n es A F j ht) (hj : j < es.length) (h1 : (eg es j).2 ∈ F) (h2 : (eg es j).1 ∈ rest n (A ++ F)) : Heat n es A F (j + 1) (ht.set (eg es j).1 (num ht (eg es j).1 + 1)) := by
  have m := mem_rest.mp h2
  have ek := eg_ok hok hj
  refine ⟨by rw [List.length_set]; exact H.1, fun h hn hh => ?_⟩
  rw [num_set (by rw [H.1]; exact m.1), cnt_succ]
  by_cases e : h = (eg es j).1
  · rw [if_pos e, if_pos (by simp [con, e, h1]), ← e, H.2 h hn hh]
    omega
  · have : con es F h j = false := by
      rw [Bool.eq_false_iff]
      intro z
      simp only [con, decide_eq_true_eq] at z
      rcases z with z | z
      · exact e z.1.symm
      · exact m.2 (List.mem_append_right _ z.2)
    rw [if_neg e, if_neg (by rw [this]; exact Bool.false_ne_true), H.2 h hn hh]
    omega
theorem Heat.none {n : Nat} {es : Eg} (hok : edgesOk n es) {A F : List Nat} {j : Nat} {ht : List Int} (H : Heat n es A F j ht) (hj : j < es.length) (h1 : ¬ ((eg es j).1 ∈ F ∧ (eg es j).2 ∈ rest n (A ++ F))) (h2 : ¬ ((eg es j).2 ∈ F ∧ (eg es j).1 ∈ rest n (A ++ F))) : Heat n es A F (j + 1) ht := by
  have ek := eg_ok hok hj
  refine ⟨H.1, fun h hn hh => ?_⟩
  have : con es F h j = false := by
    rw [Bool.eq_false_iff]
    intro z
    simp only [con, decide_eq_true_eq] at z
    rcases z with z | z
    · exact h2 ⟨z.2, mem_rest.mpr ⟨by omega, by rw [z.1]; exact hh⟩⟩
    · exact h1 ⟨z.2, mem_rest.mpr ⟨ek.2, by rw [z.1]; exact hh⟩⟩
  rw [cnt_succ, if_neg (by rw [this]; exact Bool.false_ne_true), H.2 h hn hh]
  omega
def fresh (n : Nat) (A F : List Nat) (pu ht : List Int) : List Nat := (rest n (A ++ F)).filter fun h => decide (num pu h < num ht h)
theorem Rd.step {n : Nat} {es : Eg} (hok : edgesOk n es) {pu : List Int} {root : Nat} {A F : List Nat} {ht ht' : List Int} (r : Rd n es pu root A F ht) (H : Heat n es A F es.length ht') :
    Rd n es pu root (A ++ F) (fresh n A F pu ht') ht' ∧ (rest n (A ++ F)).filter (fun h => decide (h ∉ fresh n A F pu ht')) = rest n ((A ++ F) ++ fresh n A F pu ht') := by
  have mf : ∀ h, h ∈ fresh n A F pu ht' ↔ (h < n ∧ h ∉ A ++ F) ∧ num pu h < num ht' h := fun h => by
    unfold fresh
    rw [List.mem_filter, mem_rest, decide_eq_true_eq]
  have hot : ∀ h, h < n → h ∉ A ++ F → num ht' h = (deg es (A ++ F) h : Int) := fun h hn hh => by
    rw [H.2 h hn hh, deg_add hok r.nd hh]
    push_cast
    rfl
  refine ⟨⟨?_, fun b hb => ?_, List.mem_append_left _ r.rt, fun S c b hb => ?_, H.1, fun h hn hh => ?_⟩, ?_⟩
  · rw [List.nodup_append]
    refine ⟨r.nd, (List.nodup_range.filter _).filter _, fun a ha b hb z => ?_⟩
    exact ((mf b).mp hb).1.2 (z ▸ ha)
  · rcases List.mem_append.mp hb with hb | hb
    · exact r.lt b hb
    · exact ((mf b).mp hb).1.1
  · rcases List.mem_append.mp hb with hb | hb
    · exact r.least S c b hb
    · obtain ⟨⟨b1, b2⟩, b3⟩ := (mf b).mp hb
      refine Classical.byContradiction fun hS => ?_
      have d := c.2 b b1 hS
      have m := deg_mono (es := es) (h := b) fun x hx => r.least S c x hx
      rw [hot b b1 b2] at b3
      omega
  · have h1 : h ∉ A ++ F := fun z => hh (List.mem_append_left _ z)
    have h2 : h ∉ fresh n A F pu ht' := fun z => hh (List.mem_append_right _ z)
    refine ⟨hot h hn h1, ?_⟩
    refine Classical.byContradiction fun z => h2 ((mf h).mpr ⟨⟨hn, h1⟩, by omega⟩)
  · unfold rest
    rw [List.filter_filter]
    refine List.filter_congr fun h hh => ?_
    rw [Bool.eq_iff_iff]
    simp only [Bool.and_eq_true, decide_eq_true_eq, List.mem_append, not_or]
    exact ⟨fun z => ⟨z.2, z.1⟩, fun z => ⟨z.2, z.1⟩⟩
theorem Rd.done {n : Nat} {es : Eg} {pu : List Int} {root : Nat} {A : List Nat} {ht : List Int} (r : Rd n es pu root A [] ht) : Fire n es pu root A := by
  have e : A ++ [] = A := List.append_nil A
  obtain ⟨a, b, c, d, _, f⟩ := r
  rw [e] at a b c d f
  exact ⟨a, b, ⟨c, fun h hn hh => by have := f h hn hh; omega⟩, d⟩
end Law

namespace Law
open PySem PySem.Spec PyProof.Rows L2 TR
/-- [k for k in numbers if ..] -/
theorem comp_filter {asg : VTG} {tt : VTT} {te : VTF} {ρ : List Sl} {Q : List PyData → Prop} (p : Nat → Bool) (ks : List Nat) (hl : ks.length < sizeLine)
    (step : ∀ k ∈ ks, ∀ (M : PyData → Prop) (M' : Prop), (p k = true → M (.int (k : Int))) → (p k = false → M') → asg (.int (k : Int)) ρ fun ρ2 => tt ρ2 fun b => if b = true then te ρ2 M else M')
    (done : Q (nI (ks.filter p))) : compV asg tt te ρ (nI ks) [] Q := by
  refine compV_ind (fun items acc => ∃ as bs : List Nat, ks = as ++ bs ∧ items = nI bs ∧ acc = nI (as.filter p)) (fun d ds acc N hI hN => ?_) (fun acc hI => ?_) _ _ ⟨[], ks, rfl, rfl, rfl⟩
  · obtain ⟨as, bs, e, hi, rfl⟩ := hI
    cases bs with
    | nil => cases hi
    | cons b bs =>
      cases hi
      refine step b (by rw [e]; simp) _ _ (fun hp => ⟨?_, hN _ ⟨as ++ [b], bs, by rw [e]; simp, rfl, by simp [hp]⟩⟩) (fun hp => hN _ ⟨as ++ [b], bs, by rw [e]; simp, rfl, by simp [hp]⟩)
      have : (as.filter p).length ≤ as.length := List.length_filter_le ..
      rw [e, List.length_append] at hl
      rw [List.length_map]
      omega
  · obtain ⟨as, bs, e, hi, rfl⟩ := hI
    cases bs with
    | cons _ _ => cases hi
    | nil =>
      rw [List.append_nil] at e
      rw [← e]
      exact done
theorem rgD_nI (n : Nat) : rgD 0 n = nI (List.range n) := by
  unfold rgD
  simp
theorem rest_root {n root : Nat} : (List.range n).filter (fun k => !decide (k = root)) = rest n ([] ++ [root]) := by
  unfold rest
  refine List.filter_congr fun k _ => ?_
  simp
def meas (n : Nat) (A F : List Nat) : Nat := (rest n (A ++ F)).length + (if F = [] then 0 else 1)
theorem rest_le (n : Nat) (B : List Nat) : (rest n B).length ≤ n := by
  have : (rest n B).length ≤ (List.range n).length := List.length_filter_le ..
  rwa [List.length_range] at this
def sp_burnt : List Va → (Va → Prop) → Prop := fun vas Q => ∃ (n : Nat) (es : Eg) (pu : List Int) (root : Nat), vas = [.fz (tw n es), .fz (tI pu), .fz (.int (root : Int))] ∧ pre n es pu root ∧ ∀ (l : PyData) (B : List Nat), Fire n es pu root B → Q (.fz (.tuple [l, .tuple (nI (rest n B))]))
theorem den_bur {vas : List Va} {Q : Va → Prop} (h : sp_burnt vas Q) : den_burnt { nx := fun _ => Q (.fz .none), rt := Q } (ρ0 ["town", "purse", "root", "heat", "lots", "fresh", "cold", "a", "b", "house"] vas) := by
  obtain ⟨n, es, pu, root, rfl, ⟨hn1, hn8, hok, hel, hpl, hr, hp0⟩, q⟩ := h
  have big : 1000000 ≤ sizeLine := line (by decide)
  refine ⟨line (k := 1) (by decide), ?_⟩
  refine ⟨_, atI_nat (j := 0) rfl, ?_⟩
  refine ⟨⟨by omega, by omega, by simp; omega⟩, ?_⟩
  rw [zeros]
  refine ⟨line (k := 0) (by decide), ?_⟩
  refine ⟨line (k := 1) (by decide), ?_⟩
  dsimp only [setV, List.set]
  refine ⟨_, atI_nat (j := 0) rfl, ?_⟩
  refine ⟨by omega, by omega, ?_⟩
  rw [Int.toNat_natCast, rgD_nI]
  refine comp_filter (fun k => !decide (k = root)) (List.range n) (by rw [List.length_range]; omega) (fun k _ M M' h1 h2 => ?_) ?_
  · show if (!decide ((k : Int) = (root : Int))) = true then _ else _
    by_cases e : k = root
    · exact ite_ff (by simp [e]) (h2 (by simp [e]))
    · exact ite_tt (by simp; omega) (h1 (by simp [e]))
  rw [rest_root]
  dsimp only [setV, List.set]
  refine while_ind (fun k ρ => ∃ (A F : List Nat) (ht : List Int) (lots : List PyData) (x7 x8 x9 : Sl), ρ = [.fz (tw n es), .fz (tI pu), .fz (.int (root : Int)), .ow (ht.map .int), .ow lots, .ow (nI F), .ow (nI (rest n (A ++ F))), x7, x8, x9] ∧ Rd n es pu root A F ht ∧ meas n A F = k ∧ lots.length + k ≤ 20)
    (fun k ρ N hI hN => ?_) (k := meas n [] [root]) ⟨[], [root], List.replicate n 0, [], .un, .un, .un, rfl, Rd.start hr hp0, rfl, by unfold meas; have := rest_le n ([] ++ [root]); simp at *; omega⟩
  obtain ⟨A, F, ht, lots, x7, x8, x9, rfl, r, hk, hlo⟩ := hI
  refine ⟨line (k := 0) (by decide), sh_nI _, shaped_nil, ?_⟩
  show if (!PyData.eqv (.list (nI F)) (.list [])) = true then _ else _
  rw [eqv_nil]
  cases hF : F with
  | nil =>
    subst hF
    refine ite_ff rfl ?_
    refine ⟨line (k := 2) (by decide), trivial, ?_⟩
    rw [List.append_nil]
    exact q _ A r.done
  | cons f fs =>
    refine ite_tt rfl ?_
    rw [← hF]
    have hFne : F ≠ [] := by rw [hF]; simp
    clear hF
    refine ⟨by omega, ?_⟩
    dsimp only [List.set]
    refine ⟨_, atI_nat (j := 1) rfl, ?_⟩
    refine forV_ind (fun items ρ => ∃ (j : Nat) (hj : List Int) (y7 y8 : Sl), j ≤ es.length ∧ items = (es.drop j).map pr ∧ ρ = [.fz (tw n es), .fz (tI pu), .fz (.int (root : Int)), .ow (hj.map .int), .ow (lots ++ [.tuple (nI F)]), .ow (nI F), .ow (nI (rest n (A ++ F))), y7, y8, x9] ∧ Heat n es A F j hj)
      (fun d ds ρ N2 hI2 hN2 => ?_) (fun ρ hI2 => ?_) _ _ ⟨0, ht, x7, x8, Nat.zero_le _, rfl, rfl, r.hl, fun h hn hh => by rw [(r.hot h hn hh).1]; simp⟩
    · obtain ⟨j, hj, y7, y8, hje, hi, rfl, H⟩ := hI2
      by_cases hj2 : j < es.length
      · rw [List.drop_eq_getElem_cons hj2, List.map_cons] at hi
        have ee : es[j] = eg es j := by simp [eg, List.getD, hj2]
        rw [ee] at hi
        cases hi
        have ek := eg_ok hok hj2
        have fin : ∀ hj', Heat n es A F (j + 1) hj' → N2 [.fz (tw n es), .fz (tI pu), .fz (.int (root : Int)), .ow (hj'.map .int), .ow (lots ++ [.tuple (nI F)]), .ow (nI F), .ow (nI (rest n (A ++ F))), .fz (.int ((eg es j).1 : Int)), .fz (.int ((eg es j).2 : Int)), x9] := fun hj' H' =>
          hN2 _ ⟨j + 1, hj', _, _, hj2, rfl, rfl, H'⟩
        have e1 : (hj.map PyData.int).set (eg es j).2 (.int (num hj (eg es j).2 + 1)) = (hj.set (eg es j).2 (num hj (eg es j).2 + 1)).map .int := by rw [List.map_set]
        have e2 : (hj.map PyData.int).set (eg es j).1 (.int (num hj (eg es j).1 + 1)) = (hj.set (eg es j).1 (num hj (eg es j).1 + 1)).map .int := by rw [List.map_set]
        have l1 : (eg es j).1 < hj.length := by rw [H.1]; omega
        have l2 : (eg es j).2 < hj.length := by rw [H.1]; omega
        have second : ¬ ((eg es j).1 ∈ F ∧ (eg es j).2 ∈ rest n (A ++ F)) →
            vIf (andT (bV (eOp (TR.inV false) (varV 8) (varV 5))) (bV (eOp (TR.inV false) (varV 7) (varV 6)))) (vStoreT 3 (eOp addV (eOp idxV (varV 3) (varV 7)) (conV (.int 1))) (varV 7)) vNext { nx := N2, rt := Q, ct := N2, bk := fun _ => False } [.fz (tw n es), .fz (tI pu), .fz (.int (root : Int)), .ow (hj.map .int), .ow (lots ++ [.tuple (nI F)]), .ow (nI F), .ow (nI (rest n (A ++ F))), .fz (.int ((eg es j).1 : Int)), .fz (.int ((eg es j).2 : Int)), x9] := fun h1 => by
          refine ⟨sh_int _, sh_nI F, ?_⟩
          show if inD false (nI F) (.int ((eg es j).2 : Int)) = true then _ else _
          rw [inD_nat]
          by_cases m1 : (eg es j).2 ∈ F
          · refine ite_tt (by simp [m1]) ?_
            refine ⟨sh_int _, sh_nI _, ?_⟩
            show if inD false (nI (rest n (A ++ F))) (.int ((eg es j).1 : Int)) = true then _ else _
            rw [inD_nat]
            by_cases m2 : (eg es j).1 ∈ rest n (A ++ F)
            · refine ite_tt (by simp [m2]) ?_
              refine ⟨⟨_, rfl⟩, ?_⟩
              refine ⟨_, atI_nat (gI l1), ?_⟩
              refine ⟨_, ixN_nat (by rw [List.length_map]; exact l1), ?_⟩
              rw [e2]
              exact fin _ (H.two hok hj2 m1 m2)
            · refine ite_ff (by simp [m2]) ?_
              exact fin _ (H.none hok hj2 h1 (fun z => m2 z.2))
          · refine ite_ff (by simp [m1]) ?_
            exact fin _ (H.none hok hj2 h1 (fun z => m1 z.1))
        refine ⟨rfl, ?_⟩
        refine ⟨sh_int _, sh_nI F, ?_⟩
        show if inD false (nI F) (.int ((eg es j).1 : Int)) = true then _ else _
        rw [inD_nat]
        by_cases m1 : (eg es j).1 ∈ F
        · refine ite_tt (by simp [m1]) ?_
          refine ⟨sh_int _, sh_nI _, ?_⟩
          show if inD false (nI (rest n (A ++ F))) (.int ((eg es j).2 : Int)) = true then _ else _
          rw [inD_nat]
          by_cases m2 : (eg es j).2 ∈ rest n (A ++ F)
          · refine ite_tt (by simp [m2]) ?_
            refine ⟨⟨_, rfl⟩, ?_⟩
            refine ⟨_, atI_nat (gI l2), ?_⟩
            refine ⟨_, ixN_nat (by rw [List.length_map]; exact l2), ?_⟩
            rw [e1]
            exact fin _ (H.one hok hj2 m1 m2)
          · refine ite_ff (by simp [m2]) ?_
            exact second fun z => m2 z.2
        · refine ite_ff (by simp [m1]) ?_
          exact second fun z => m1 z.1
      · have : es.drop j = [] := List.drop_eq_nil_of_le (by omega)
        rw [this] at hi
        cases hi
    · obtain ⟨j, hj, y7, y8, hje, hi, rfl, H⟩ := hI2
      have hje2 : j = es.length := by
        refine Classical.byContradiction fun z => ?_
        rw [List.drop_eq_getElem_cons (by omega)] at hi
        cases hi
      subst hje2
      obtain ⟨r2, er⟩ := r.step hok H
      have rl := rest_le n (A ++ F)
      refine comp_filter (fun h => decide (num pu h < num hj h)) (rest n (A ++ F)) (by omega) (fun h hm M M' h1 h2 => ?_) ?_
      · have hn := (mem_rest.mp hm).1
        refine ⟨_, atI_nat (gI (xs := pu) (k := h) (by omega)), ?_⟩
        refine ⟨_, atI_nat (gI (xs := hj) (k := h) (by rw [H.1]; exact hn)), ?_⟩
        show if decide (num pu h < num hj h) = true then _ else _
        cases e : decide (num pu h < num hj h) with
        | true => exact ite_tt rfl (h1 e)
        | false => exact ite_ff rfl (h2 e)
      dsimp only [setV, List.set]
      refine comp_filter (fun h => decide (h ∉ fresh n A F pu hj)) (rest n (A ++ F)) (by omega) (fun h hm M M' h1 h2 => ?_) ?_
      · refine ⟨sh_int _, sh_nI _, ?_⟩
        show if inD true (nI (fresh n A F pu hj)) (.int (h : Int)) = true then _ else _
        rw [inD_nat]
        by_cases e : h ∈ fresh n A F pu hj
        · exact ite_ff (by simp [e]) (h2 (by simp [e]))
        · exact ite_tt (by simp [e]) (h1 (by simp [e]))
      have lf : (rest n (A ++ F)).length = (rest n ((A ++ F) ++ fresh n A F pu hj)).length + (fresh n A F pu hj).length := by
        rw [← er]
        have cc : ∀ (l : List Nat) (p q : Nat → Bool), (∀ x ∈ l, q x = !p x) → l.length = (l.filter q).length + (l.filter p).length := fun l p q => by
          induction l with
          | nil => intro _; rfl
          | cons a l ih =>
            intro h
            have ih := ih fun x hx => h x (List.mem_cons_of_mem _ hx)
            have ha := h a (List.mem_cons_self ..)
            rw [List.filter_cons, List.filter_cons, ha]
            cases p a <;> simp <;> omega
        refine cc (rest n (A ++ F)) (fun h => decide (num pu h < num hj h)) _ fun x hx => ?_
        have : x ∈ fresh n A F pu hj ↔ num pu x < num hj x := by
          unfold fresh
          rw [List.mem_filter, decide_eq_true_eq]
          exact ⟨fun z => z.2, fun z => ⟨hx, z⟩⟩
        by_cases z : num pu x < num hj x <;> simp [this, z]
      have mk : meas n (A ++ F) (fresh n A F pu hj) < k := by
        rw [← hk]
        unfold meas
        rw [if_neg hFne]
        cases hfr : fresh n A F pu hj with
        | nil => rw [hfr] at lf; simp at lf ⊢ <;> omega
        | cons a as => rw [hfr] at lf; rw [if_neg (by simp)]; simp at lf ⊢; omega
      refine hN _ _ mk ⟨A ++ F, fresh n A F pu hj, hj, lots ++ [.tuple (nI F)], y7, y8, x9, ?_, r2, rfl, by simp; omega⟩
      show [Sl.fz (tw n es), .fz (tI pu), .fz (.int (root : Int)), .ow (hj.map .int), .ow (lots ++ [.tuple (nI F)]), .ow (nI (fresh n A F pu hj)), .ow (nI ((rest n (A ++ F)).filter fun h => decide (h ∉ fresh n A F pu hj))), y7, y8, x9] = _
      rw [er]
end Law

namespace Law
open PySem PySem.Spec PyProof.Rows L2 TR
theorem enumD_ints {pu : List Int} {j : Nat} (hj : j < pu.length) : enumD j ((pu.drop j).map .int) = .tuple [.int (j : Int), .int (num pu j)] :: enumD (j + 1) ((pu.drop (j + 1)).map .int) := by
  rw [List.drop_eq_getElem_cons hj, List.map_cons]
  have : num pu j = pu[j] := by simp [num, List.getD, hj]
  rw [this]
  rfl
theorem sh_tup (ks : List Nat) : SeqAt.shaped (.tuple (nI ks)) = true := by
  have := sh_nI ks
  unfold SeqAt.shaped at this ⊢
  simpa [PyData.canLay0, PyData.depth] using this
theorem eqv_tnil (ks : List Nat) : PyData.eqv (.tuple (nI ks)) (.tuple []) = ks.isEmpty := by
  cases ks <;> simp [PyData.eqv, PyData.eqvAll]
def sp_is_reduced : List Va → (Va → Prop) → Prop := fun vas Q => ∃ (n : Nat) (es : Eg) (pu : List Int) (root : Nat), vas = [.fz (tw n es), .fz (tI pu), .fz (.int (root : Int))] ∧ pre n es pu root ∧ ∀ (B : List Nat), Fire n es pu root B → Q (.fz (.bool (rest n B).isEmpty))
theorem den_red {vas : List Va} {Q : Va → Prop} (h : sp_is_reduced vas Q) : den_is_reduced sp_burnt { nx := fun _ => Q (.fz .none), rt := Q } (ρ0 ["town", "purse", "root", "house", "item"] vas) := by
  obtain ⟨n, es, pu, root, rfl, ⟨hn1, hn8, hok, hel, hpl, hr, hp0⟩, q⟩ := h
  have big : 1000000 ≤ sizeLine := line (by decide)
  refine compV_ind (fun items acc => ∃ j m : Nat, items = enumD j ((pu.drop j).map .int) ∧ acc = (List.replicate m false).map PyData.bool ∧ m ≤ j ∧ j ≤ n) (fun d ds acc N hI hN => ?_) (fun acc hI => ?_) _ _ ⟨0, 0, rfl, rfl, Nat.le_refl _, Nat.zero_le _⟩
  · obtain ⟨j, m, hi, rfl, hm, hj⟩ := hI
    by_cases hj2 : j < pu.length
    · rw [enumD_ints hj2] at hi
      cases hi
      refine ⟨rfl, ?_⟩
      show if (!decide ((j : Int) = (root : Int))) = true then _ else _
      by_cases e : j = root
      · exact ite_ff (by simp [e]) (hN _ ⟨j + 1, m, rfl, rfl, by omega, by omega⟩)
      · refine ite_tt (by simp; omega) ?_
        have x0 := hp0 j (by omega)
        refine ⟨by simp; omega, hN _ ⟨j + 1, m + 1, rfl, ?_, by omega, by omega⟩⟩
        show (List.replicate m false).map PyData.bool ++ [PyData.bool (decide (num pu j < 0))] = _
        rw [show decide (num pu j < 0) = false from decide_eq_false (by omega), List.replicate_succ', List.map_append]
        rfl
    · have : pu.drop j = [] := List.drop_eq_nil_of_le (by omega)
      rw [this] at hi
      cases hi
  · obtain ⟨j, m, hi, rfl, hm, hj⟩ := hI
    refine ⟨List.replicate m false, rfl, ?_⟩
    have : (List.replicate m false).any id = false := by
      rw [List.any_eq_false]
      intro x hx
      rw [(List.mem_replicate.mp hx).2]
      exact Bool.false_ne_true
    show if (List.replicate m false).any id = true then _ else _
    refine ite_ff this ?_
    refine ⟨n, es, pu, root, rfl, ⟨hn1, hn8, hok, hel, hpl, hr, hp0⟩, fun l B f _ => ?_⟩
    refine ⟨_, atI_nat (j := 1) rfl, ?_⟩
    refine ⟨line (k := 0) (by decide), ?_⟩
    refine ⟨sh_tup _, by decide, ?_⟩
    refine ⟨trivial, ?_⟩
    show Q (.fz (.bool (PyData.eqv (.tuple (nI (rest n B))) (.tuple []))))
    rw [eqv_tnil]
    exact q B f
def sp__law_degrees : List Va → (Va → Prop) → Prop := fun vas Q => ∃ (n : Nat) (es : Eg), vas = [.fz (tw n es)] ∧ 1 ≤ n ∧ n ≤ 8 ∧ edgesOk n es ∧ es.length ≤ 100 ∧ ∀ ds : List Int, ds.length = n → (∀ x ∈ ds, 0 ≤ x ∧ x ≤ 200) → Q (.nw (ds.map .int))
theorem num_mem {xs : List Int} {k : Nat} (h : k < xs.length) : num xs k ∈ xs := by
  have : num xs k = xs[k] := by simp [num, List.getD, h]
  rw [this]
  exact List.getElem_mem h
theorem den_deg {vas : List Va} {Q : Va → Prop} (h : sp__law_degrees vas Q) : den__law_degrees { nx := fun _ => Q (.fz .none), rt := Q } (ρ0 ["town", "found", "one", "other"] vas) := by
  obtain ⟨n, es, rfl, hn1, hn8, hok, hel, q⟩ := h
  have big : 1000000 ≤ sizeLine := line (by decide)
  refine ⟨line (k := 1) (by decide), ?_⟩
  refine ⟨_, atI_nat (j := 0) rfl, ?_⟩
  refine ⟨⟨by omega, by omega, by simp; omega⟩, ?_⟩
  rw [zeros]
  dsimp only [setV, List.set]
  refine ⟨_, atI_nat (j := 1) rfl, ?_⟩
  refine forV_ind (fun items ρ => ∃ (j : Nat) (ds : List Int) (y2 y3 : Sl), j ≤ es.length ∧ items = (es.drop j).map pr ∧ ρ = [.fz (tw n es), .ow (ds.map .int), y2, y3] ∧ ds.length = n ∧ ∀ x ∈ ds, 0 ≤ x ∧ x ≤ 2 * (j : Int))
    (fun d items ρ N hI hN => ?_) (fun ρ hI => ?_) _ _ ⟨0, List.replicate n 0, .un, .un, Nat.zero_le _, rfl, rfl, by simp, fun x hx => by rw [(List.mem_replicate.mp hx).2]; omega⟩
  · obtain ⟨j, ds, y2, y3, hje, hi, rfl, hl, hb⟩ := hI
    by_cases hj2 : j < es.length
    · rw [List.drop_eq_getElem_cons hj2, List.map_cons] at hi
      have ee : es[j] = eg es j := by simp [eg, List.getD, hj2]
      rw [ee] at hi
      cases hi
      have ek := eg_ok hok hj2
      have l1 : (eg es j).1 < ds.length := by omega
      have e1 : (ds.map PyData.int).set (eg es j).1 (.int (num ds (eg es j).1 + 1)) = (ds.set (eg es j).1 (num ds (eg es j).1 + 1)).map .int := by rw [List.map_set]
      refine ⟨rfl, ?_⟩
      refine ⟨⟨_, rfl⟩, ?_⟩
      refine ⟨_, atI_nat (gI l1), ?_⟩
      refine ⟨_, ixN_nat (by rw [List.length_map]; exact l1), ?_⟩
      rw [e1]
      have b1 : ∀ x ∈ ds.set (eg es j).1 (num ds (eg es j).1 + 1), 0 ≤ x ∧ x ≤ 2 * (j : Int) + 1 := fun x hx => by
        rcases List.mem_or_eq_of_mem_set hx with hx | hx
        · have := hb x hx; omega
        · have := hb _ (num_mem l1); omega
      have l2 : (eg es j).2 < (ds.set (eg es j).1 (num ds (eg es j).1 + 1)).length := by rw [List.length_set]; omega
      generalize hds : ds.set (eg es j).1 (num ds (eg es j).1 + 1) = ds1 at b1 l2
      have hl1 : ds1.length = n := by rw [← hds, List.length_set]; exact hl
      have e2 : (ds1.map PyData.int).set (eg es j).2 (.int (num ds1 (eg es j).2 + 1)) = (ds1.set (eg es j).2 (num ds1 (eg es j).2 + 1)).map .int := by rw [List.map_set]
      refine ⟨⟨_, rfl⟩, ?_⟩
      refine ⟨_, atI_nat (gI l2), ?_⟩
      refine ⟨_, ixN_nat (by rw [List.length_map]; exact l2), ?_⟩
      rw [e2]
      refine hN _ ⟨j + 1, ds1.set (eg es j).2 (num ds1 (eg es j).2 + 1), .fz (.int ((eg es j).1 : Int)), .fz (.int ((eg es j).2 : Int)), hj2, rfl, rfl, by rw [List.length_set]; exact hl1, fun x hx => ?_⟩
      rcases List.mem_or_eq_of_mem_set hx with hx | hx
      · have := b1 x hx; omega
      · have := b1 _ (num_mem l2); omega
    · have : es.drop j = [] := List.drop_eq_nil_of_le (by omega)
      rw [this] at hi
      cases hi
  · obtain ⟨j, ds, y2, y3, hje, hi, rfl, hl, hb⟩ := hI
    exact q ds hl fun x hx => by have := hb x hx; omega
def sp__law_any_tree : List Va → (Va → Prop) → Prop := fun vas Q => ∃ (n : Nat) (es : Eg), vas = [.dk, .fz (tw n es)] ∧ 1 ≤ n ∧ n ≤ 8 ∧ edgesOk n es ∧ es.length ≤ 100 ∧ ∀ ts : List Nat, Q (.fz (.tuple (nI ts)))
end Law

namespace Law
open PySem PySem.Spec PyProof.Rows L2 TR
theorem ints_any : ∀ {ds ys : List PyData}, All2 (fun _ y => ∃ i : Int, y = PyData.int i) ds ys → ∃ xs : List Int, ys = xs.map .int ∧ xs.length = ds.length
  | _, _, .nil => ⟨[], rfl, rfl⟩
  | _, _, .cons ⟨i, e⟩ t => by
    obtain ⟨xs, rfl, hl⟩ := ints_any t
    exact ⟨i :: xs, by rw [e]; rfl, by simp [hl]⟩
theorem den_any_tree {vas : List Va} {Q : Va → Prop} (h : sp__law_any_tree vas Q) : den__law_any_tree sp__law_mixed { nx := fun _ => Q (.fz .none), rt := Q } (ρ0 ["deck", "town", "parts", "found", "k", "one", "other", "part"] vas) := by
  obtain ⟨n, es, rfl, hn1, hn8, hok, hel, q⟩ := h
  have big : 1000000 ≤ sizeLine := line (by decide)
  have er : ∀ m : Nat, rgD 0 ((m : Int) - 0).toNat = nI (List.range m) := fun m => by
    rw [show ((m : Int) - 0).toNat = m by omega]
    exact rgD_nI m
  refine ⟨_, atI_nat (j := 0) rfl, ?_⟩
  refine ⟨by unfold RgOk; omega, ?_⟩
  rw [er]
  refine ⟨line (k := 0) (by decide), ?_⟩
  dsimp only [setV, List.set]
  refine ⟨_, atI_nat (j := 1) rfl, ?_⟩
  have el : (es.map pr).length = es.length := by simp
  refine ⟨by rw [el]; unfold RgOk; omega, ?_⟩
  rw [el, er]
  refine ⟨_, _, rfl, .inl rfl, sh_nI _, by simp; omega, fun ys hys _ => ?_⟩
  obtain ⟨ks, rfl, hks⟩ := perm_map hys
  refine forV_ind (fun items ρ => ∃ (ks ts : List Nat) (ps : List Int) (x4 x5 x6 x7 : Sl), items = nI ks ∧ (∀ k ∈ ks, k < es.length) ∧ ps.length = n ∧ ts.length + ks.length ≤ es.length ∧ ρ = [.dk, .fz (tw n es), .ow (ps.map .int), .ow (nI ts), x4, x5, x6, x7])
    (fun d items ρ N hI hN => ?_) (fun ρ hI => ?_) _ _ ⟨ks, [], (List.range n).map (fun k : Nat => (k : Int)), .un, .un, .un, .un, rfl, fun k hk => List.mem_range.mp (hks.mem_iff.mp hk), by simp, by rw [hks.length_eq]; simp, by rw [List.map_map]; rfl⟩
  · obtain ⟨ks, ts, ps, x4, x5, x6, x7, hi, hlt, hps, hl, rfl⟩ := hI
    cases ks with
    | nil => cases hi
    | cons k ks =>
      cases hi
      rw [List.length_cons] at hl
      have hk := hlt k (List.mem_cons_self ..)
      have ek := eg_ok hok hk
      refine ⟨_, atI_nat (j := 1) rfl, ?_⟩
      refine ⟨_, atI_nat (gE hk), ?_⟩
      refine ⟨_, atI_nat (j := 0) rfl, ?_⟩
      refine ⟨_, atI_nat (gI (xs := ps) (k := (eg es k).1) (by omega)), ?_⟩
      refine ⟨_, atI_nat (j := 1) rfl, ?_⟩
      refine ⟨_, atI_nat (gE hk), ?_⟩
      refine ⟨_, atI_nat (j := 1) rfl, ?_⟩
      refine ⟨_, atI_nat (gI (xs := ps) (k := (eg es k).2) (by omega)), ?_⟩
      show if (!decide (num ps (eg es k).1 = num ps (eg es k).2)) = true then _ else _
      have rl : ∀ j ∈ ks, j < es.length := fun j hj => hlt j (List.mem_cons_of_mem _ hj)
      by_cases e : num ps (eg es k).1 = num ps (eg es k).2
      · refine ite_ff (by simp [e]) ?_
        exact hN _ ⟨ks, ts, ps, .fz (.int (k : Int)), .fz (.int (num ps (eg es k).1)), .fz (.int (num ps (eg es k).2)), x7, rfl, rl, hps, by omega, rfl⟩
      · refine ite_tt (by simp [e]) ?_
        refine ⟨by rw [List.length_map]; omega, ?_⟩
        dsimp only [List.set]
        refine compV_map (fun _ y => ∃ i : Int, y = .int i) (ps.map .int) (by rw [List.length_map]; omega) (fun d hd N hN => ?_) fun ys hy => ?_
        · obtain ⟨i, _, rfl⟩ := List.mem_map.mp hd
          show if decide (i = num ps (eg es k).2) = true then _ else _
          by_cases e2 : i = num ps (eg es k).2
          · exact ite_tt (by simp [e2]) (hN _ ⟨_, rfl⟩)
          · exact ite_ff (by simp [e2]) (hN _ ⟨_, rfl⟩)
        · obtain ⟨ps', rfl, hl'⟩ := ints_any hy
          refine hN _ ⟨ks, ts ++ [k], ps', .fz (.int (k : Int)), .fz (.int (num ps (eg es k).1)), .fz (.int (num ps (eg es k).2)), x7, rfl, rl, by rw [hl', List.length_map]; exact hps, by simp; omega, ?_⟩
          rw [show nI (ts ++ [k]) = nI ts ++ [PyData.int (k : Int)] by simp]
          rfl
  · obtain ⟨ks, ts, ps, x4, x5, x6, x7, hi, hlt, hps, hl, rfl⟩ := hI
    obtain ⟨s1, s2, s3⟩ := sortable_nI ts
    obtain ⟨ts', e, _⟩ := perm_map (List.mergeSort_perm (nI ts) dle)
    refine ⟨⟨s1, s2, s3, by rw [List.length_map]; omega⟩, ?_⟩
    refine ⟨trivial, ?_⟩
    rw [e]
    exact q ts'
end Law

namespace Law
open PySem PySem.Spec PyProof.Rows L2 TR
theorem fit_nat {n e : Nat} (h : n < 2 ^ 1000) : Fit (.int (n : Int)) 1 e := Fit.int (log2_of (n := 1000) (by rw [Int.natAbs_natCast]; exact h) (by decide) (by decide))
theorem big10 : (1000 : Nat) < 2 ^ 1000 := Nat.lt_of_lt_of_le (by decide : 1000 < 2 ^ 10) (Nat.pow_le_pow_right (by decide) (by decide))
theorem fit_tw {n : Nat} {es : List (Nat × Nat)} (hn : n ≤ 1000) (hok : edgesOk n es) (hl : es.length ≤ 100) {e : Nat} (he : 3 ≤ e := by omega) : Fit (tw n es) 303 e := by
  have big := big10
  have h1 : ∀ d ∈ es.map pr, Fit d 3 1 := fun d hd => by
    obtain ⟨p, hp, rfl⟩ := List.mem_map.mp hd
    have := hok p hp
    exact Fit.tuple (FitL.cons (fit_nat (e := 0) (by omega)) (FitL.cons (fit_nat (by omega)) .nil))
  have h2 : Fit (.tuple (es.map pr)) 301 2 := (Fit.tuple (FitL.all h1)).mono (by rw [List.length_map]; omega) (Nat.le_refl _)
  exact (Fit.tuple (FitL.cons (fit_nat (e := 2) (by omega)) (FitL.cons h2 .nil))).mono (by omega) he
theorem fit_ints {xs : List Int} (h : ∀ x ∈ xs, 0 ≤ x ∧ x ≤ 1000) (hl : xs.length ≤ 8) {e : Nat} (he : 1 ≤ e := by omega) : Fit (tI xs) 9 e :=
  (Fit.tuple (Fit.ints (e := 0) fun x hx => by
    have := h x hx
    have b : (1000 : Nat) < 2 ^ 1900 := Nat.lt_of_lt_of_le (by decide : 1000 < 2 ^ 10) (Nat.pow_le_pow_right (by decide) (by decide))
    omega)).mono (by omega) he
theorem fit_nI {ks : List Nat} (h : ∀ k ∈ ks, k < 1000) (hl : ks.length ≤ 8) {e : Nat} (he : 1 ≤ e := by omega) : Fit (.tuple (nI ks)) 9 e := by
  have : FitL (nI ks) ((nI ks).length * 1) 0 := FitL.all fun d hd => by
    obtain ⟨k, hk, rfl⟩ := List.mem_map.mp hd
    have := h k hk
    have b := big10
    exact fit_nat (by omega)
  exact (Fit.tuple this).mono (by simp; omega) he
theorem eqvAll_self (ks : List Nat) : PyData.eqvAll (nI ks) (nI ks) = true := by
  induction ks with
  | nil => rfl
  | cons k ks ih =>
    simp only [nI, List.map_cons, PyData.eqvAll, PyData.eqv]
    rw [nI] at ih
    rw [ih]
    simp
theorem eqv_self (ks : List Nat) : PyData.eqv (.list (nI ks)) (.list (nI ks)) = true := by
  simp only [PyData.eqv]
  exact eqvAll_self ks
theorem eqvAll_len : ∀ {as bs : List PyData}, PyData.eqvAll as bs = true → as.length = bs.length
  | [], [], _ => rfl
  | [], _ :: _, h => by simp [PyData.eqvAll] at h
  | _ :: _, [], h => by simp [PyData.eqvAll] at h
  | a :: as, b :: bs, h => by
    simp only [PyData.eqvAll, Bool.and_eq_true] at h
    rw [List.length_cons, List.length_cons, eqvAll_len h.2]
theorem all_burn {n : Nat} {B : List Nat} : PyData.eqv (.list (nI (canon n B))) (.list (nI (List.range n))) = (rest n B).isEmpty := by
  by_cases h : ∀ k, k < n → k ∈ B
  · have e1 : canon n B = List.range n := by
      unfold canon
      exact List.filter_eq_self.mpr fun k hk => by simpa using h k (List.mem_range.mp hk)
    have e2 : rest n B = [] := by
      unfold rest
      exact List.filter_eq_nil_iff.mpr fun k hk => by simpa using h k (List.mem_range.mp hk)
    rw [e1, eqv_self, e2]
    rfl
  · have e2 : (rest n B).isEmpty = false := by
      cases e : rest n B with
      | cons _ _ => rfl
      | nil =>
        refine absurd (fun k hk => ?_) h
        have := List.filter_eq_nil_iff.mp e k (List.mem_range.mpr hk)
        simpa using this
    rw [e2]
    cases e : PyData.eqv (.list (nI (canon n B))) (.list (nI (List.range n))) with
    | false => rfl
    | true =>
      simp only [PyData.eqv] at e
      have := eqvAll_len e
      rw [List.length_map, List.length_map] at this
      refine absurd (fun k hk => ?_) h
      have e3 : canon n B = List.range n := by
        refine List.Sublist.eq_of_length List.filter_sublist ?_
        exact this
      have hk' : k ∈ canon n B := by rw [e3]; exact List.mem_range.mpr hk
      unfold canon at hk'
      simpa using (List.mem_filter.mp hk').2
theorem never_eq {n : Nat} {B : List Nat} : (List.range n).filter (fun h => decide (h ∉ canon n B)) = rest n B := by
  unfold rest
  refine List.filter_congr fun k hk => ?_
  have : k ∈ canon n B ↔ k ∈ B := by
    unfold canon
    rw [List.mem_filter, decide_eq_true_eq]
    exact ⟨fun z => z.2, fun z => ⟨hk, z⟩⟩
  simp [this]
theorem partB {x2 x4 x6 x8 x9 : Sl} {n : Nat} {es : Eg} {pu : List Int} {root : Nat} (hpre : pre n es pu root) (hpu : ∀ x ∈ pu, 0 ≤ x ∧ x ≤ 1000) {D : VD} (hN : ∀ l : List Sl, l.length = 8 → D.nx (.un :: .dk :: x2 :: .fz (tw n es) :: x4 :: .fz (.int (root : Int)) :: x6 :: .fz (tI pu) :: x8 :: x9 :: l)) {x10 x11 x12 x13 x14 x15 x16 x17 : Sl} :
    (vSeq (vPar2 10 11 (calV reprC (consA (lstV (consL (frzV (varV 3)) (consL (frzV (varV 5)) (consL (frzV (varV 7)) nilL)))) nilA)) (lstRgV (rg1V (eOp idxV (varV 3) (conV (.int 0))))))
  (vSeq (vSet 12 (callV sp__law_any_fire (consA (argV (varV 1)) (consA (argV (varV 3)) (consA (argV (varV 5)) (consA (argV (varV 7)) nilA))))))
  (vSeq (vFor (rg1I (consA (conV (.int 2)) nilA)) (nameG 13) (vIf (bV (eOp (eqV true) (callV sp__law_any_fire (consA (argV (varV 1)) (consA (argV (varV 3)) (consA (argV (varV 5)) (consA (argV (varV 7)) nilA))))) (varV 12))) (vRet (conV (.bool false))) vNext))
  (vSeq (vIf (bV (eOp (eqV true) (calV sortC (consA (eOp idxV (callV sp__law_fire (consA (argV (varV 3)) (consA (argV (varV 5)) (consA (argV (varV 7)) (consA (argV (conV .none)) nilA))))) (conV (.int 3))) nilA)) (varV 12))) (vRet (conV (.bool false))) vNext)
  (vSeq (vSet 14 (eOp (eqV false) (varV 12) (varV 11)))
  (vSeq (vSet 15 (lstV (consL (frzV (callV sp_is_reduced (consA (argV (varV 3)) (consA (argV (varV 7)) (consA (argV (varV 5)) nilA))))) (consL (frzV (callKV 0 3 sp_is_reduced [0, 1, 2] nilA (consA (argV (varV 3)) (consA (argV (varV 7)) (consA (argV (varV 5)) nilA))))) nilL))))
  (vSeq (vIf (bV (eOp (eqV true) (calV reprC (consA (varV 15) nilA)) (calV reprC (consA (lstV (consL (frzV (varV 14)) (consL (frzV (varV 14)) nilL))) nilA)))) (vRet (conV (.bool false))) vNext)
  (vSeq (vSet 16 (calV tupC (consA (lcV (seqIC (varV 11)) (nameG 9) (bV (eOp (inV true) (varV 9) (varV 12))) (frzV (varV 9)) [9]) nilA)))
  (vSeq (vSet 15 (lstV (consL (frzV (eOp idxV (callV sp_burnt (consA (argV (varV 3)) (consA (argV (varV 7)) (consA (argV (varV 5)) nilA)))) (conV (.int 1)))) (consL (frzV (eOp idxV (callKV 0 3 sp_burnt [0, 1, 2] nilA (consA (argV (varV 3)) (consA (argV (varV 7)) (consA (argV (varV 5)) nilA)))) (conV (.int 1)))) nilL))))
  (vSeq (vIf (bV (eOp (eqV true) (calV reprC (consA (varV 15) nilA)) (calV reprC (consA (lstV (consL (frzV (varV 16)) (consL (frzV (varV 16)) nilL))) nilA)))) (vRet (conV (.bool false))) vNext)
  (vIf (bV (eOp (eqV true) (calV reprC (consA (lstV (consL (frzV (varV 3)) (consL (frzV (varV 5)) (consL (frzV (varV 7)) nilL)))) nilA)) (varV 10))) (vRet (conV (.bool false))) vNext))))))))))) D [.un, .dk, x2, .fz (tw n es), x4, .fz (.int (root : Int)), x6, .fz (tI pu), x8, x9, x10, x11, x12, x13, x14, x15, x16, x17] := by
  obtain ⟨hn1, hn8, hok, hel, hpl, hr, hp0⟩ := id hpre
  have big : 1000000 ≤ sizeLine := line (by decide)
  have b10 := big10
  have hthree : shows (.list [tw n es, .int (root : Int), tI pu]) :=
    (Fit.list (FitL.cons (fit_tw (e := 5) (by omega) hok hel) (FitL.cons (fit_nat (by omega)) (FitL.cons (fit_ints hpu (by omega)) .nil)))).shows
  refine ⟨line (k := 3) (by decide), ?_⟩
  refine ⟨hthree, ?_⟩
  refine ⟨_, atI_nat (j := 0) rfl, ?_⟩
  refine ⟨by unfold RgOk; omega, ?_⟩
  rw [show ((n : Int) - 0).toNat = n by omega, rgD_nI]
  dsimp only [setV, List.set]
  refine ⟨n, es, pu, root, rfl, hpre, fun B0 f0 _ => ?_⟩
  dsimp only [setV, List.set]
  refine ⟨by decide, by decide, ?_⟩
  refine forV_ind (fun _ ρ => ∃ y13 : Sl, ρ = [.un, .dk, x2, .fz (tw n es), x4, .fz (.int (root : Int)), x6, .fz (tI pu), x8, x9, .fz (.str (PyData.shown (.list [tw n es, .int (root : Int), tI pu]))), .ow (nI (List.range n)), .ow (nI (canon n B0)), y13, x14, x15, x16, x17]) (fun d ds ρ N2 hI2 hN2 => ?_) (fun ρ hI2 => ?_) _ _ ⟨x13, rfl⟩
  · obtain ⟨y13, rfl⟩ := hI2
    refine ⟨n, es, pu, root, rfl, hpre, fun B f _ => ?_⟩
    refine ⟨sh_nI _, sh_nI _, ?_⟩
    show if (!PyData.eqv (.list (nI (canon n B))) (.list (nI (canon n B0)))) = true then _ else _
    rw [f.canon f0, eqv_self]
    exact hN2 _ ⟨.fz d, rfl⟩
  obtain ⟨y13, rfl⟩ := hI2
  dsimp only
  refine step_if ?c1 ?_
  case c1 =>
    intro F hF
    refine ⟨n, es, root, _, _, rfl, .inl ⟨pu, rfl, rfl, hpre, fun g t co B f _ => ?_⟩⟩
    refine ⟨_, atI_nat (j := 3) rfl, ?_⟩
    obtain ⟨s1, s2, s3⟩ := sortable_nI B
    have hl : (nI B).length ≤ sizeLine := by
      rw [List.length_map]
      have := List.Nodup.length_le_of_subset f.nd (l₂ := List.range n) fun b hb => List.mem_range.mpr (f.lt b hb)
      rw [List.length_range] at this
      omega
    refine ⟨⟨s1, s2, s3, hl⟩, ?_⟩
    have e := sort_nI f.nd f.lt
    refine ⟨by rw [e]; exact sh_nI _, sh_nI _, ?_⟩
    show F (!PyData.eqv (.list ((nI B).mergeSort dle)) (.list (nI (canon n B0))))
    rw [e, f.canon f0, eqv_self]
    exact hF
  refine ⟨sh_nI _, sh_nI _, ?_⟩
  dsimp only [setV, List.set, Va.rd]
  simp only [Bool.false_eq_true, if_false]
  rw [all_burn]
  refine ⟨n, es, pu, root, rfl, hpre, fun B1 f1 _ => ?_⟩
  refine ⟨rfl, rfl, n, es, pu, root, rfl, hpre, fun B2 f2 _ => ?_⟩
  rw [f1.rest f0, f2.rest f0]
  refine ⟨line (k := 2) (by decide), ?_⟩
  dsimp only [setV, List.set]
  refine step_if ?c2 ?_
  case c2 =>
    refine ne_repr (d := .list [.bool (rest n B0).isEmpty, .bool (rest n B0).isEmpty]) (va := .br [.bool (rest n B0).isEmpty, .bool (rest n B0).isEmpty]) (vb := .nw [.bool (rest n B0).isEmpty, .bool (rest n B0).isEmpty]) (Fit.list (FitL.cons (Fit.bool (e := 5)) (FitL.cons Fit.bool .nil))).shows (.inl ⟨_, rfl⟩) ?_ rfl ?_ rfl
    · exact fun Q q => q
    · exact fun Q q => ⟨line (k := 2) (by decide), q⟩
  refine comp_filter (fun h => decide (h ∉ canon n B0)) (List.range n) (by rw [List.length_range]; omega) (fun h hm M M' h1 h2 => ?_) ?_
  · refine ⟨sh_int _, sh_nI _, ?_⟩
    show if inD true (nI (canon n B0)) (.int (h : Int)) = true then _ else _
    rw [inD_nat]
    by_cases e : h ∈ canon n B0
    · exact ite_ff (by simp [e]) (h2 (by simp [e]))
    · exact ite_tt (by simp [e]) (h1 (by simp [e]))
  rw [never_eq]
  refine ⟨n, es, pu, root, rfl, hpre, fun l3 B3 f3 _ => ?_⟩
  refine ⟨_, atI_nat (j := 1) rfl, ?_⟩
  refine ⟨rfl, rfl, n, es, pu, root, rfl, hpre, fun l4 B4 f4 _ => ?_⟩
  refine ⟨_, atI_nat (j := 1) rfl, ?_⟩
  rw [f3.rest f0, f4.rest f0]
  refine ⟨line (k := 2) (by decide), ?_⟩
  dsimp only [setV, List.set]
  have fr : Fit (.tuple (nI (rest n B0))) 9 5 := fit_nI (fun k hk => by have := (mem_rest.mp hk).1; omega) (Nat.le_trans (rest_le n B0) hn8)
  refine step_if ?c3 ?_
  case c3 =>
    refine ne_repr (d := .list [.tuple (nI (rest n B0)), .tuple (nI (rest n B0))]) (va := .br [.tuple (nI (rest n B0)), .tuple (nI (rest n B0))]) (vb := .nw [.tuple (nI (rest n B0)), .tuple (nI (rest n B0))]) (Fit.list (FitL.cons fr (FitL.cons fr .nil))).shows (.inl ⟨_, rfl⟩) ?_ rfl ?_ rfl
    · exact fun Q q => q
    · exact fun Q q => ⟨line (k := 2) (by decide), q⟩
  refine last_if ?c4 ?_
  case c4 =>
    refine ne_kept (d := .list [tw n es, .int (root : Int), tI pu]) (va := .nw [tw n es, .int (root : Int), tI pu]) hthree (.inl ⟨_, rfl⟩) ?_ rfl rfl
    exact fun Q q => ⟨line (k := 3) (by decide), q⟩
  exact hN _ rfl
end Law

namespace Law
open PySem PySem.Spec PyProof.Rows L2 TR
theorem list16 : ∀ {l : List Sl}, l.length = 16 → ∃ x2 x3 x4 x5 x6 x7 x8 x9 x10 x11 x12 x13 x14 x15 x16 x17 : Sl, l = [x2, x3, x4, x5, x6, x7, x8, x9, x10, x11, x12, x13, x14, x15, x16, x17]
  | [x2, x3, x4, x5, x6, x7, x8, x9, x10, x11, x12, x13, x14, x15, x16, x17], _ => ⟨x2, x3, x4, x5, x6, x7, x8, x9, x10, x11, x12, x13, x14, x15, x16, x17, rfl⟩
theorem pick_ints {js : List Int} {d : PyData} (h : d ∈ js.map PyData.int) : ∃ m, m ∈ js ∧ d = .int m := by
  obtain ⟨m, hm, rfl⟩ := List.mem_map.mp h
  exact ⟨m, hm, rfl⟩
theorem ints_bd : ∀ {ds ys : List PyData}, All2 (fun _ y => ∃ i : Int, y = PyData.int i ∧ 0 ≤ i ∧ i ≤ 1000) ds ys → ∃ xs : List Int, ys = xs.map .int ∧ xs.length = ds.length ∧ ∀ x ∈ xs, 0 ≤ x ∧ x ≤ 1000
  | _, _, .nil => ⟨[], rfl, rfl, fun _ h => (nomatch h)⟩
  | _, _, .cons ⟨i, e, h⟩ t => by
    obtain ⟨xs, rfl, hl, hx⟩ := ints_bd t
    refine ⟨i :: xs, by rw [e]; rfl, by simp [hl], fun x h' => ?_⟩
    rcases List.mem_cons.mp h' with rfl | h'
    · exact h
    · exact hx x h'
theorem cut_lo {ds : List PyData} {h : Nat} (hh : h ≤ ds.length) : TR.cutD ds none (some (h : Int)) = ds.take h := by
  unfold TR.cutD
  rw [HT.sIx_nat, HT.sIx_none, Nat.min_eq_left hh, List.drop_zero, Nat.sub_zero]
theorem cut_hi {ds : List PyData} {h : Nat} (hh : h ≤ ds.length) : TR.cutD ds (some (h : Int)) none = ds.drop h := by
  unfold TR.cutD
  rw [HT.sIx_nat, HT.sIx_none, Nat.min_eq_left hh]
  exact List.take_of_length_le (by rw [List.length_drop]; exact Nat.le_refl _)
theorem den_law_ok : den_law sp__law_town sp__law_pick sp__law_degrees spNext sp__law_any_tree sp__law_fire sp__law_any_fire sp_is_reduced sp_burnt { nx := fun _ => False, rt := isTrue } (ρL 16) := by
  have big : 1000000 ≤ sizeLine := line (by decide)
  refine ⟨by decide, by decide, ?_⟩
  refine forV_ind (fun _ ρ => ∃ l : List Sl, ρ = .un :: .dk :: l ∧ l.length = 16) (fun d ds ρ N hI hN => ?_) (fun ρ hI => ?_) _ _ ⟨List.replicate 16 .un, rfl, rfl⟩
  rotate_left
  · exact ⟨trivial, rfl⟩
  obtain ⟨l, rfl, hl⟩ := hI
  obtain ⟨x2, x3, x4, x5, x6, x7, x8, x9, x10, x11, x12, x13, x14, x15, x16, x17, rfl⟩ := list16 hl
  refine ⟨line (k := 4) (by decide), ?_⟩
  refine ⟨_, _, rfl, .inl rfl, by simp, by simp, fun dm hdm _ => ?_⟩
  obtain ⟨most, hm, rfl⟩ := pick_ints (js := [1, 4, 5, 8]) hdm
  have hm : 1 ≤ most ∧ most ≤ 8 := by simp at hm; omega
  refine ⟨line (k := 3) (by decide), ?_⟩
  refine ⟨_, _, rfl, .inl rfl, by simp, by simp, fun dr hdr _ => ?_⟩
  obtain ⟨more, hr, rfl⟩ := pick_ints (js := [0, 3, 6]) hdr
  have hr : 0 ≤ more ∧ more ≤ 6 := by simp at hr; omega
  refine ⟨most, more, rfl, by omega, by omega, by omega, by omega, fun n es hn1 hn2 hok hel _ => ?_⟩
  have hn8 : n ≤ 8 := by omega
  have hel : es.length ≤ 100 := by omega
  dsimp only [setV, List.set]
  refine ⟨n, es, rfl, hn1, hn8, hok, hel, fun dg hdl hdb _ => ?_⟩
  dsimp only [setV, List.set]
  refine ⟨_, atI_nat (j := 0) rfl, ?_⟩
  refine ⟨(n : Int), rfl, by omega, log9 (by omega), fun rr rr0 rr1 _ => ?_⟩
  obtain ⟨root, rfl⟩ := Int.eq_ofNat_of_zero_le rr0
  have hroot : root < n := by omega
  dsimp only [setV, List.set]
  refine ⟨by decide, by decide, ?_⟩
  refine forV_ind (fun _ ρ => ∃ y6 y7 y8 y9 y10 y11 y12 y13 y14 y15 y16 y17 : Sl, ρ = [.un, .dk, .fz d, .fz (tw n es), .ow (dg.map .int), .fz (.int (root : Int)), y6, y7, y8, y9, y10, y11, y12, y13, y14, y15, y16, y17]) (fun d2 ds2 ρ N2 hI2 hN2 => ?_) (fun ρ hI2 => ?_) _ _ ⟨x6, x7, x8, x9, x10, x11, x12, x13, x14, x15, x16, x17, rfl⟩
  rotate_left
  · obtain ⟨y6, y7, y8, y9, y10, y11, y12, y13, y14, y15, y16, y17, rfl⟩ := hI2
    exact hN _ ⟨_, rfl, rfl⟩
  obtain ⟨y6, y7, y8, y9, y10, y11, y12, y13, y14, y15, y16, y17, rfl⟩ := hI2
  refine compV_map (fun _ y => ∃ i : Int, y = .int i ∧ 0 ≤ i ∧ i ≤ 1000) (dg.map .int) (by rw [List.length_map]; omega) (fun dc hd NN hNN => ?_) fun ys hy => ?_
  · obtain ⟨c, hc, rfl⟩ := List.mem_map.mp hd
    have hc := hdb c hc
    refine ⟨2, rfl, by decide, log9 (n := 2) (by decide), fun r r0 r1 _ => ?_⟩
    have hm : ∀ z : Int, z = (1 : Int) + (if c - r > 1 then c - r else 1) → 0 < z ∧ z ≤ 1000 := fun z hz => by
      split at hz <;> omega
    obtain ⟨z1, z2⟩ := hm (1 + (if c - r > 1 then c - r else 1)) rfl
    exact ⟨_, rfl, z1, log9I (Int.le_of_lt z1) (Int.lt_of_le_of_lt z2 (by decide)), fun t t0 t1 _ => hNN _ ⟨t, rfl, t0, Int.le_trans (Int.le_of_lt t1) z2⟩⟩
  obtain ⟨pu0, rfl, hp0l, hp0b⟩ := ints_bd hy
  rw [List.length_map] at hp0l
  have hp0n : pu0.length = n := by omega
  have mkpre : ∀ pu : List Int, pu.length = n → (∀ x ∈ pu, 0 ≤ x ∧ x ≤ 1000) → pre n es pu root := fun pu h1 h2 => ⟨hn1, hn8, hok, hel, h1, hroot, fun h hh => (h2 _ (num_mem (by omega))).1⟩
  have fin : ∀ (pu : List Int) (z8 z9 : Sl) (l : List Sl), l.length = 8 → N2 (.un :: .dk :: .fz d :: .fz (tw n es) :: .ow (dg.map .int) :: .fz (.int (root : Int)) :: .fz d2 :: .fz (tI pu) :: z8 :: z9 :: l) := fun pu z8 z9 l hl => by
    match l, hl with
    | [a, b, c, e, f, g, h, i], _ => exact hN2 _ ⟨_, _, _, _, _, _, _, _, _, _, _, _, rfl⟩
  refine ⟨2, rfl, by decide, log9 (n := 2) (by decide), fun r r0 r1 _ => ?_⟩
  show if decide (r = 0) = true then _ else _
  by_cases hr0 : r = 0
  · refine ite_tt (by simp [hr0]) ?_
    refine ⟨n, es, rfl, hn1, hn8, hok, hel, fun ts _ => ?_⟩
    dsimp only [setV, List.set]
    refine ⟨n, es, root, _, _, rfl, .inr ⟨ts, rfl, rfl, hn1, hn8, hok, hel, hroot, fun g t co B hcl hcb _ => ?_⟩⟩
    refine ⟨_, atI_nat (j := 2) rfl, ?_⟩
    dsimp only [setV, List.set]
    refine ⟨_, atI_nat (j := 0) rfl, ?_⟩
    refine ⟨(n : Int), rfl, by omega, log9 (by omega), fun hh hh0 hh1 _ => ?_⟩
    obtain ⟨h, rfl⟩ := Int.eq_ofNat_of_zero_le hh0
    have hhn : h < n := by omega
    have lc : (co.map PyData.int).length = n := by rw [List.length_map]; exact hcl
    dsimp only [setV, List.set]
    refine ⟨fun z => by rw [HT.sIx_nat, lc] at z; omega, ?_⟩
    refine ⟨_, atI_nat (gI (xs := co) (k := h) (by omega)), ?_⟩
    refine ⟨3, rfl, by decide, log9 (n := 3) (by decide), fun u u0 u1 _ => ?_⟩
    refine ⟨line (k := 1) (by decide), ?_⟩
    have c1 : TR.cutD (co.map PyData.int) none (some (h : Int)) = (co.take h).map .int := by rw [cut_lo (by omega), List.map_take]
    have c2 : TR.cutD (co.map PyData.int) (some ((h + 1 : Nat) : Int)) none = (co.drop (h + 1)).map .int := by rw [cut_hi (by omega), List.map_drop]
    rw [c1]
    refine ⟨by simp; omega, ?_⟩
    refine ⟨fun z => by
      have z1 : HT.sIx (co.map PyData.int).length 0 (some ((h + 1 : Nat) : Int)) = 0 := z.1
      rw [HT.sIx_nat, lc] at z1
      omega, ?_⟩
    have c3 : TR.cutD (co.map PyData.int) (some ((h : Int) + 1)) none = (co.drop (h + 1)).map .int := c2
    have e4 : (co.take h).map PyData.int ++ [PyData.int (num co h + u)] ++ (co.drop (h + 1)).map PyData.int = ((co.take h ++ [num co h + u]) ++ co.drop (h + 1)).map PyData.int := by simp
    rw [c3]
    refine ⟨by simp; omega, ?_⟩
    rw [e4]
    have hx := hcb _ (num_mem (xs := co) (k := h) (by omega))
    have hb' : ∀ x ∈ (co.take h ++ [num co h + u]) ++ co.drop (h + 1), 0 ≤ x ∧ x ≤ 1000 := fun x hx' => by
      rcases List.mem_append.mp hx' with hx' | hx'
      · rcases List.mem_append.mp hx' with hx' | hx'
        · have := hcb x (List.mem_of_mem_take hx'); omega
        · rw [List.mem_singleton.mp hx']; omega
      · have := hcb x (List.mem_of_mem_drop hx'); omega
    have hl' : ((co.take h ++ [num co h + u]) ++ co.drop (h + 1)).length = n := by simp; omega
    exact partB (mkpre _ hl' hb') hb' (fun l hl => fin _ (.fz (.tuple (nI ts))) (.fz (.int (h : Int))) l hl)
  · refine ite_ff (by simp [hr0]) ?_
    exact partB (mkpre pu0 hp0n hp0b) hp0b (fun l hl => fin pu0 y8 y9 l hl)
end Law

namespace Law
open PySem PySem.Spec PyProof.Rows L2 TR
theorem ar_sp__law_pick {vas Q} (h : sp__law_pick vas Q) : vas.length = 2 := by obtain ⟨_, _, rfl, _⟩ := h; rfl
theorem ar_sp__law_mixed {vas Q} (h : sp__law_mixed vas Q) : vas.length = 2 := by obtain ⟨_, _, rfl, _⟩ := h; rfl
theorem ar_sp__law_pair {vas Q} (h : sp__law_pair vas Q) : vas.length = 2 := by obtain ⟨_, _, rfl, _⟩ := h; rfl
theorem ar_sp__law_town {vas Q} (h : sp__law_town vas Q) : vas.length = 3 := by obtain ⟨_, _, rfl, _⟩ := h; rfl
theorem ar_sp__law_degrees {vas Q} (h : sp__law_degrees vas Q) : vas.length = 1 := by obtain ⟨_, _, rfl, _⟩ := h; rfl
theorem ar_sp__law_fire {vas Q} (h : sp__law_fire vas Q) : vas.length = 4 := by obtain ⟨_, _, _, _, _, rfl, _⟩ := h; rfl
theorem ar_sp__law_any_fire {vas Q} (h : sp__law_any_fire vas Q) : vas.length = 4 := by obtain ⟨_, _, _, _, rfl, _⟩ := h; rfl
theorem ar_sp__law_any_tree {vas Q} (h : sp__law_any_tree vas Q) : vas.length = 2 := by obtain ⟨_, _, rfl, _⟩ := h; rfl
theorem ar_sp_burnt {vas Q} (h : sp_burnt vas Q) : vas.length = 3 := by obtain ⟨_, _, _, _, rfl, _⟩ := h; rfl
theorem ar_sp_is_reduced {vas Q} (h : sp_is_reduced vas Q) : vas.length = 3 := by obtain ⟨_, _, _, _, rfl, _⟩ := h; rfl
theorem law_of {P : Program} {w : World} {mg : Str → Option Value} {K : PySem.W.Frag} {fa : Addr} (T : Fx K mg) (hmg : mg "law" = some (.ref fa)) :
    ∃ fd : FuncData, (∀ (s : Shared) (u : Value), BindsTo s fd ⟨[u], []⟩ [("script", u)]) ∧ ∀ base : Heap, K.In base → base.Ns mainGlobals mg → FnG P w K mg base CX0 4 fa fd ["script"] (spLaw K) := by
  obtain ⟨f, fd, F, m⟩ := T.e_law
  cases m.symm.trans hmg
  refine ⟨fd, ?_, fun base hb hns => ?_⟩
  · obtain ⟨oc, od, kV, doc, pm, an, cdv, ct, osl, rfl, _, _⟩ := F.ex
    exact fun s u => .of_eq rfl
  have h__law_next := ok__law_next (P := P) (w := w) (base := base) (Fm := Form3) (fun _ h => h) T
  have hdk := ok__law_deck (P := P) (w := w) (base := base) (Fm := Form3) T (fun d l => gd3_form) deck_den
  have h_burnt := ok_burnt (P := P) (w := w) (base := base) (Fm := Form3) T (sp := sp_burnt) (fun vas Q h => ar_sp_burnt h) (fun vas Q h => den_bur h)
  have h__law_pair := ok__law_pair (P := P) (w := w) (base := base) (Fm := Form3) T (sp := sp__law_pair) (fun vas Q h => ar_sp__law_pair h) (fun vas Q h => den_pair h)
  have h__law_degrees := ok__law_degrees (P := P) (w := w) (base := base) (Fm := Form3) T (sp := sp__law_degrees) (fun vas Q h => ar_sp__law_degrees h) (fun vas Q h => den_deg h)
  have h__law_fire := ok__law_fire (P := P) (w := w) (base := base) (Fm := Form3) T (sp := sp__law_fire) (fun vas Q h => ar_sp__law_fire h) (fun vas Q h => den_fire h)
  have h_is_reduced := ok_is_reduced (P := P) (w := w) (base := base) (Fm := Form3) T h_burnt (sp := sp_is_reduced) (fun vas Q h => ar_sp_is_reduced h) (fun vas Q h => den_red h)
  have h__law_pick := ok__law_pick (P := P) (w := w) (base := base) (Fm := Form3) T h__law_next (sp := sp__law_pick) (fun vas Q h => ar_sp__law_pick h) (fun vas Q h => den_pick h)
  have h__law_mixed := ok__law_mixed (P := P) (w := w) (base := base) (Fm := Form3) T h__law_next (sp := sp__law_mixed) (fun vas Q h => ar_sp__law_mixed h) (fun vas Q h => den_mixed h)
  have h__law_town := ok__law_town (P := P) (w := w) (base := base) (Fm := Form3) T h__law_next h__law_mixed h__law_pair h__law_pick (sp := sp__law_town) (fun vas Q h => ar_sp__law_town h) (fun vas Q h => den_town h)
  have h__law_any_fire := ok__law_any_fire (P := P) (w := w) (base := base) (Fm := Form3) T h__law_pick (sp := sp__law_any_fire) (fun vas Q h => ar_sp__law_any_fire h) (fun vas Q h => den_any_fire h)
  have h__law_any_tree := ok__law_any_tree (P := P) (w := w) (base := base) (Fm := Form3) T h__law_mixed (sp := sp__law_any_tree) (fun vas Q h => ar_sp__law_any_tree h) (fun vas Q h => den_any_tree h)
  exact ok_law ⟨gd3 K 0 0, gd3_form⟩ T hdk h__law_town h__law_pick h__law_degrees h__law_next h__law_any_tree h__law_fire h__law_any_fire h_is_reduced h_burnt F den_law_ok
theorem law_all {P : Program} {w : World} {fa : Addr} {K : PySem.W.Frag} {h : Heap} {mg : Str → Option Value} (X : K.In h) (Gm : h.Ns mainGlobals mg) (hmg : mg "law" = some (.ref fa))
    {f0 : Addr} {od0 an0 : Option Addr} {sl0 : Array (Option Value)} {oc0 kV0 dc0 pm0 cd0 ct0 : Value} (a0 : PySem.W.nsIn K mainGlobals "burnt" = some (some (.ref f0))) (l0 : K.lookup f0 = some ⟨oc0, od0, .func (PySem.W.fnOf "burnt" "burnt" (defArgs s_burnt) (defBody s_burnt) (defScope s_burnt) .none kV0 dc0 pm0 an0 cd0 ct0), sl0⟩) (c0 : PySem.W.codeIn K cd0 "burnt" = true) (k0 : PySem.W.keepIn K (.ref f0) = true)
    {f1 : Addr} {od1 an1 : Option Addr} {sl1 : Array (Option Value)} {oc1 kV1 dc1 pm1 cd1 ct1 : Value} (a1 : PySem.W.nsIn K mainGlobals "is_reduced" = some (some (.ref f1))) (l1 : K.lookup f1 = some ⟨oc1, od1, .func (PySem.W.fnOf "is_reduced" "is_reduced" (defArgs s_is_reduced) (defBody s_is_reduced) (defScope s_is_reduced) .none kV1 dc1 pm1 an1 cd1 ct1), sl1⟩) (c1 : PySem.W.codeIn K cd1 "is_reduced" = true) (k1 : PySem.W.keepIn K (.ref f1) = true)
    {f2 : Addr} {od2 an2 : Option Addr} {sl2 : Array (Option Value)} {oc2 kV2 dc2 pm2 cd2 ct2 : Value} (a2 : PySem.W.nsIn K mainGlobals "_law_deck" = some (some (.ref f2))) (l2 : K.lookup f2 = some ⟨oc2, od2, .func (PySem.W.fnOf "_law_deck" "_law_deck" (defArgs s__law_deck) (defBody s__law_deck) (defScope s__law_deck) .none kV2 dc2 pm2 an2 cd2 ct2), sl2⟩) (c2 : PySem.W.codeIn K cd2 "_law_deck" = true) (k2 : PySem.W.keepIn K (.ref f2) = true)
    {f3 : Addr} {od3 an3 : Option Addr} {sl3 : Array (Option Value)} {oc3 kV3 dc3 pm3 cd3 ct3 : Value} (a3 : PySem.W.nsIn K mainGlobals "_law_next" = some (some (.ref f3))) (l3 : K.lookup f3 = some ⟨oc3, od3, .func (PySem.W.fnOf "_law_next" "_law_next" (defArgs s__law_next) (defBody s__law_next) (defScope s__law_next) .none kV3 dc3 pm3 an3 cd3 ct3), sl3⟩) (c3 : PySem.W.codeIn K cd3 "_law_next" = true) (k3 : PySem.W.keepIn K (.ref f3) = true)
    {f4 : Addr} {od4 an4 : Option Addr} {sl4 : Array (Option Value)} {oc4 kV4 dc4 pm4 cd4 ct4 : Value} (a4 : PySem.W.nsIn K mainGlobals "_law_pick" = some (some (.ref f4))) (l4 : K.lookup f4 = some ⟨oc4, od4, .func (PySem.W.fnOf "_law_pick" "_law_pick" (defArgs s__law_pick) (defBody s__law_pick) (defScope s__law_pick) .none kV4 dc4 pm4 an4 cd4 ct4), sl4⟩) (c4 : PySem.W.codeIn K cd4 "_law_pick" = true) (k4 : PySem.W.keepIn K (.ref f4) = true)
    {f5 : Addr} {od5 an5 : Option Addr} {sl5 : Array (Option Value)} {oc5 kV5 dc5 pm5 cd5 ct5 : Value} (a5 : PySem.W.nsIn K mainGlobals "_law_mixed" = some (some (.ref f5))) (l5 : K.lookup f5 = some ⟨oc5, od5, .func (PySem.W.fnOf "_law_mixed" "_law_mixed" (defArgs s__law_mixed) (defBody s__law_mixed) (defScope s__law_mixed) .none kV5 dc5 pm5 an5 cd5 ct5), sl5⟩) (c5 : PySem.W.codeIn K cd5 "_law_mixed" = true) (k5 : PySem.W.keepIn K (.ref f5) = true)
    {f6 : Addr} {od6 an6 : Option Addr} {sl6 : Array (Option Value)} {oc6 kV6 dc6 pm6 cd6 ct6 : Value} (a6 : PySem.W.nsIn K mainGlobals "_law_pair" = some (some (.ref f6))) (l6 : K.lookup f6 = some ⟨oc6, od6, .func (PySem.W.fnOf "_law_pair" "_law_pair" (defArgs s__law_pair) (defBody s__law_pair) (defScope s__law_pair) .none kV6 dc6 pm6 an6 cd6 ct6), sl6⟩) (c6 : PySem.W.codeIn K cd6 "_law_pair" = true) (k6 : PySem.W.keepIn K (.ref f6) = true)
    {f7 : Addr} {od7 an7 : Option Addr} {sl7 : Array (Option Value)} {oc7 kV7 dc7 pm7 cd7 ct7 : Value} (a7 : PySem.W.nsIn K mainGlobals "_law_town" = some (some (.ref f7))) (l7 : K.lookup f7 = some ⟨oc7, od7, .func (PySem.W.fnOf "_law_town" "_law_town" (defArgs s__law_town) (defBody s__law_town) (defScope s__law_town) .none kV7 dc7 pm7 an7 cd7 ct7), sl7⟩) (c7 : PySem.W.codeIn K cd7 "_law_town" = true) (k7 : PySem.W.keepIn K (.ref f7) = true)
    {f8 : Addr} {od8 an8 : Option Addr} {sl8 : Array (Option Value)} {oc8 kV8 dc8 pm8 cd8 ct8 : Value} (a8 : PySem.W.nsIn K mainGlobals "_law_degrees" = some (some (.ref f8))) (l8 : K.lookup f8 = some ⟨oc8, od8, .func (PySem.W.fnOf "_law_degrees" "_law_degrees" (defArgs s__law_degrees) (defBody s__law_degrees) (defScope s__law_degrees) .none kV8 dc8 pm8 an8 cd8 ct8), sl8⟩) (c8 : PySem.W.codeIn K cd8 "_law_degrees" = true) (k8 : PySem.W.keepIn K (.ref f8) = true)
    {f9 : Addr} {od9 an9 : Option Addr} {sl9 : Array (Option Value)} {oc9 kV9 dc9 pm9 cd9 ct9 : Value} (a9 : PySem.W.nsIn K mainGlobals "_law_fire" = some (some (.ref f9))) (l9 : K.lookup f9 = some ⟨oc9, od9, .func (PySem.W.fnOf "_law_fire" "_law_fire" (defArgs s__law_fire) (defBody s__law_fire) (defScope s__law_fire) .none kV9 dc9 pm9 an9 cd9 ct9), sl9⟩) (c9 : PySem.W.codeIn K cd9 "_law_fire" = true) (k9 : PySem.W.keepIn K (.ref f9) = true)
    {f10 : Addr} {od10 an10 : Option Addr} {sl10 : Array (Option Value)} {oc10 kV10 dc10 pm10 cd10 ct10 : Value} (a10 : PySem.W.nsIn K mainGlobals "_law_any_fire" = some (some (.ref f10))) (l10 : K.lookup f10 = some ⟨oc10, od10, .func (PySem.W.fnOf "_law_any_fire" "_law_any_fire" (defArgs s__law_any_fire) (defBody s__law_any_fire) (defScope s__law_any_fire) .none kV10 dc10 pm10 an10 cd10 ct10), sl10⟩) (c10 : PySem.W.codeIn K cd10 "_law_any_fire" = true) (k10 : PySem.W.keepIn K (.ref f10) = true)
    {f11 : Addr} {od11 an11 : Option Addr} {sl11 : Array (Option Value)} {oc11 kV11 dc11 pm11 cd11 ct11 : Value} (a11 : PySem.W.nsIn K mainGlobals "_law_any_tree" = some (some (.ref f11))) (l11 : K.lookup f11 = some ⟨oc11, od11, .func (PySem.W.fnOf "_law_any_tree" "_law_any_tree" (defArgs s__law_any_tree) (defBody s__law_any_tree) (defScope s__law_any_tree) .none kV11 dc11 pm11 an11 cd11 ct11), sl11⟩) (c11 : PySem.W.codeIn K cd11 "_law_any_tree" = true) (k11 : PySem.W.keepIn K (.ref f11) = true)
    {f12 : Addr} {od12 an12 : Option Addr} {sl12 : Array (Option Value)} {oc12 kV12 dc12 pm12 cd12 ct12 : Value} (a12 : PySem.W.nsIn K mainGlobals "law" = some (some (.ref f12))) (l12 : K.lookup f12 = some ⟨oc12, od12, .func (PySem.W.fnOf "law" "law" (defArgs s_law) (defBody s_law) (defScope s_law) .none kV12 dc12 pm12 an12 cd12 ct12), sl12⟩) (c12 : PySem.W.codeIn K cd12 "law" = true) (k12 : PySem.W.keepIn K (.ref f12) = true)
    (z_len : PySem.W.nsIn K mainGlobals "len" = some none)
    (z_range : PySem.W.nsIn K mainGlobals "range" = some none)
    (z_tuple : PySem.W.nsIn K mainGlobals "tuple" = some none)
    (z_repr : PySem.W.nsIn K mainGlobals "repr" = some none)
    (z_list : PySem.W.nsIn K mainGlobals "list" = some none)
    (z_enumerate : PySem.W.nsIn K mainGlobals "enumerate" = some none)
    (z_sorted : PySem.W.nsIn K mainGlobals "sorted" = some none)
    (z_abs : PySem.W.nsIn K mainGlobals "abs" = some none)
    (z_max : PySem.W.nsIn K mainGlobals "max" = some none)
    (z_any : PySem.W.nsIn K mainGlobals "any" = some none) :
    ∃ fd : FuncData, (∀ (s : Shared) (u : Value), BindsTo s fd ⟨[u], []⟩ [("script", u)]) ∧ ∀ base : Heap, K.In base → base.Ns mainGlobals mg → FnG P w K mg base CX0 4 fa fd ["script"] (spLaw K) :=
  law_of (facts_mk X Gm a0 l0 c0 k0 a1 l1 c1 k1 a2 l2 c2 k2 a3 l3 c3 k3 a4 l4 c4 k4 a5 l5 c5 k5 a6 l6 c6 k6 a7 l7 c7 k7 a8 l8 c8 k8 a9 l9 c9 k9 a10 l10 c10 k10 a11 l11 c11 k11 a12 l12 c12 k12 z_len z_range z_tuple z_repr z_list z_enumerate z_sorted z_abs z_max z_any) hmg
end Law

open PySem PySem.W PyProof.Rows in
set_option maxRecDepth 100000 in
set_option maxHeartbeats 0 in
theorem PySem.Challenge.cw_townroads_k40_whole_fire_in_other_orders_holds : PySem.Challenge.rw_townroads_k40_whole_fire_in_other_orders.Holds := by
  w_on; o_law; k_head; (case hw => w_witness2)
  k_fill
  refine TR.walkG (l := PySem.Challenge.rw_townroads_k40_whole_fire_in_other_orders) (k := 4) (x := "script") rfl rfl ⟨rfl, by decide, by decide⟩ (fun w h Y => PySem.W.kIn_of Y) ?F
  case F =>
    intro w mg fa h KX G hmg
    apply Law.law_all KX G hmg
    case a0 => k_is
    case l0 => k_is
    case c0 => k_is
    case k0 => k_is
    case a1 => k_is
    case l1 => k_is
    case c1 => k_is
    case k1 => k_is
    case a2 => k_is
    case l2 => k_is
    case c2 => k_is
    case k2 => k_is
    case a3 => k_is
    case l3 => k_is
    case c3 => k_is
    case k3 => k_is
    case a4 => k_is
    case l4 => k_is
    case c4 => k_is
    case k4 => k_is
    case a5 => k_is
    case l5 => k_is
    case c5 => k_is
    case k5 => k_is
    case a6 => k_is
    case l6 => k_is
    case c6 => k_is
    case k6 => k_is
    case a7 => k_is
    case l7 => k_is
    case c7 => k_is
    case k7 => k_is
    case a8 => k_is
    case l8 => k_is
    case c8 => k_is
    case k8 => k_is
    case a9 => k_is
    case l9 => k_is
    case c9 => k_is
    case k9 => k_is
    case a10 => k_is
    case l10 => k_is
    case c10 => k_is
    case k10 => k_is
    case a11 => k_is
    case l11 => k_is
    case c11 => k_is
    case k11 => k_is
    case a12 => k_is
    case l12 => k_is
    case c12 => k_is
    case k12 => k_is
    case z_len => k_is
    case z_range => k_is
    case z_tuple => k_is
    case z_repr => k_is
    case z_list => k_is
    case z_enumerate => k_is
    case z_sorted => k_is
    case z_abs => k_is
    case z_max => k_is
    case z_any => k_is

