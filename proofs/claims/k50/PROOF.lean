import PyProof.Rows.All
import Wide.All
import OpenK.AllK
import Wide.FinOn
import HandS.ForMost
import HandS.ForExc
import HandS.IsInst
import HandS.Deep
import HandS.Star
import HandS.Zip
import KE.SortData
import KE.SortKeyHeap
import HandS.Walk
import HandS.Iter
import HandS.ExcInit
import HandS.TryMany
import HandS.Wide
import HandS.MakeKw
import HandS.Flow
import HandS.Defaults
import HandS.CallLocal
import HandS.ExcField
import HandS.Nested
import HandS.DictTup
import KE.KDictKeyed
import HandS.TupAny
import KE.GoesEnum
import KE.GoesMore
import HandS.TryOnly
import HandS.OwnEq
import HandS.Comp
import HandS.Style
import PyProof.ReprNest
import PyProof.StrHeap
import HandS.EndTab
import PySem.Challenge.RW_roadheld_k50_whole_mends_made
set_option Elab.async false
set_option linter.all false
set_option maxRecDepth 100000
set_option maxHeartbeats 4000000
/-! Pd: readings of expressions that only make new data: trees (PyData) over a frozen part G of the abstract heap -/
namespace PD
open PySem PySem.Spec PyProof.Rows L2 StX

/-! ### data that stand in a part of the heap -/
mutual
inductive Dq (H : Hp) : V → PyData → Prop
  | non : Dq H .non .none
  | bl (b : Bool) : Dq H (.bl b) (.bool b)
  | int (i : Int) : Dq H (.int i) (.int i)
  | str (x : Str) : Dq H (.str x) (.str x)
  | lst {a : Addr} {xs : List V} {ds : List PyData} : H a = some (.lst xs) → DqAll H xs ds → Dq H (.ref a) (.list ds)
  | tup {a : Addr} {xs : List V} {ds : List PyData} : H a = some (.tup xs) → DqAll H xs ds → Dq H (.ref a) (.tuple ds)
  | dict {a : Addr} : H a = some (.dK []) → Dq H (.ref a) (.dict [])
  | ins {a dx C : Addr} {xs : List Str} {vs : List V} {ds : List PyData} : H a = some (.ins C dx (xs.zip vs)) → H dx = some (.own a) → xs.length = vs.length → DqAll H vs ds → Dq H (.ref a) (.dict [(.tuple (.int C :: xs.map PyData.str), .tuple ds)])
inductive DqAll (H : Hp) : List V → List PyData → Prop
  | nil : DqAll H [] []
  | cons {v : V} {vs : List V} {d : PyData} {ds : List PyData} : Dq H v d → DqAll H vs ds → DqAll H (v :: vs) (d :: ds)
end
/-- an instance of the class at C: its fields' names, their data -/
def insD (C : Addr) (xs : List Str) (ds : List PyData) : PyData := .dict [(.tuple (.int C :: xs.map PyData.str), .tuple ds)]
theorem strs_inj : ∀ {xs ys : List Str}, xs.map PyData.str = ys.map PyData.str → xs = ys
  | [], [], _ => rfl
  | [], _ :: _, h => by cases h
  | _ :: _, [], h => by cases h
  | x :: xs, y :: ys, h => by
    simp only [List.map_cons, List.cons.injEq, PyData.str.injEq] at h
    rw [h.1, strs_inj h.2]
theorem Dq.insE {H : Hp} {v : V} {C : Addr} {xs : List Str} {ds : List PyData} (h : Dq H v (insD C xs ds)) : ∃ a dx vs, v = .ref a ∧ H a = some (.ins C dx (xs.zip vs)) ∧ H dx = some (.own a) ∧ xs.length = vs.length ∧ DqAll H vs ds := by
  unfold insD at h
  generalize hk : (PyData.tuple (.int C :: xs.map PyData.str)) = k at h
  cases h with
  | @ins a dx C' xs' vs ds' h1 h2 h3 h4 =>
    simp only [PyData.tuple.injEq, List.cons.injEq, PyData.int.injEq] at hk
    obtain ⟨e1, e2⟩ := hk
    have e1 : C = C' := Int.ofNat.inj e1
    have e2 := strs_inj e2
    subst e1 e2
    exact ⟨a, dx, vs, rfl, h1, h2, h3, h4⟩
section
variable {G H G' H' : Hp}
mutual
theorem Dq.mono (e : Same G G') : ∀ (d : PyData) (v : V), Dq G v d → Dq G' v d
  | .none, _, h => by cases h; exact .non
  | .bool b, _, h => by cases h; exact .bl b
  | .int i, _, h => by cases h; exact .int i
  | .str x, _, h => by cases h; exact .str x
  | .list ds, _, h => by
    cases h with
    | lst h1 h2 => exact .lst (e _ _ h1) (DqAll.mono e ds _ h2)
  | .tuple ds, _, h => by
    cases h with
    | tup h1 h2 => exact .tup (e _ _ h1) (DqAll.mono e ds _ h2)
  | .dict [], _, h => by
    cases h with
    | dict h1 => exact .dict (e _ _ h1)
  | .dict [(_, .tuple ds)], _, h => by
    cases h with
    | ins h1 h2 h3 h4 => exact .ins (e _ _ h1) (e _ _ h2) h3 (DqAll.mono e ds _ h4)
theorem DqAll.mono (e : Same G G') : ∀ (ds : List PyData) (vs : List V), DqAll G vs ds → DqAll G' vs ds
  | [], _, h => by cases h; exact .nil
  | d :: ds, _, h => by
    cases h with
    | cons h1 h2 => exact .cons (Dq.mono e d _ h1) (DqAll.mono e ds _ h2)
end
theorem Dq.up {v : V} {d : PyData} (h : Dq G v d) (e : Same G G') : Dq G' v d := Dq.mono e d v h
theorem DqAll.up {vs : List V} {ds : List PyData} (h : DqAll G vs ds) (e : Same G G') : DqAll G' vs ds := DqAll.mono e ds vs h
/-! no dict in it -/
mutual
def noDict : PyData → Bool
  | .dict _ => false
  | .list ds => noDictL ds
  | .tuple ds => noDictL ds
  | _ => true
def noDictL : List PyData → Bool
  | [] => true
  | d :: ds => noDict d && noDictL ds
end
mutual
theorem Dq.dp {K : PySem.W.Frag} : ∀ (d : PyData) (v : V), Dq G v d → noDict d = true → Dp K G v d
  | .none, _, h, _ => by cases h; exact .non
  | .bool b, _, h, _ => by cases h; exact .bl b
  | .int i, _, h, _ => by cases h; exact .int i
  | .str x, _, h, _ => by cases h; exact .str x
  | .list ds, _, h, n => by
    cases h with
    | lst h1 h2 => exact .lst (SqL.of h1) (DqAll.dp ds _ h2 (by simpa [noDict] using n))
  | .tuple ds, _, h, n => by
    cases h with
    | tup h1 h2 => exact .tup (SqT.of h1) (DqAll.dp ds _ h2 (by simpa [noDict] using n))
  | .dict _, _, h, n => by simp [noDict] at n
theorem DqAll.dp {K : PySem.W.Frag} : ∀ (ds : List PyData) (vs : List V), DqAll G vs ds → noDictL ds = true → DpAll K G vs ds
  | [], _, h, _ => by cases h; exact .nil
  | d :: ds, _, h, n => by
    rw [noDictL, Bool.and_eq_true] at n
    cases h with
    | cons h1 h2 => exact .cons (Dq.dp d _ h1 n.1) (DqAll.dp ds _ h2 n.2)
end
mutual
theorem noDict_of_lay : ∀ d : PyData, d.canLay0 = true → noDict d = true
  | .none, _ => rfl
  | .bool _, _ => rfl
  | .int _, _ => rfl
  | .str _, _ => rfl
  | .list ds, h => by
    rw [noDict]
    exact noDictL_of_lay ds (by simpa [PyData.canLay0] using h)
  | .tuple ds, h => by
    rw [noDict]
    exact noDictL_of_lay ds (by simpa [PyData.canLay0] using h)
  | .dict _, h => by simp [PyData.canLay0] at h
theorem noDictL_of_lay : ∀ ds : List PyData, PyData.canLayAll0 ds = true → noDictL ds = true
  | [], _ => rfl
  | d :: ds, h => by
    simp only [PyData.canLayAll0, Bool.and_eq_true] at h
    rw [noDictL, noDict_of_lay d h.1, noDictL_of_lay ds h.2]
    rfl
end
theorem lay_of_shaped {d : PyData} (h : SeqAt.shaped d = true) : d.canLay0 = true := by
  have h : (d.canLay0 && decide (d.depth ≤ 64)) = true := h
  exact (Bool.and_eq_true _ _ ▸ h).1
theorem Dq.toDp {K : PySem.W.Frag} {v : V} {d : PyData} (h : Dq G v d) (s : SeqAt.shaped d = true) (e : Same G H) : Dp K H v d := Dq.dp d v (h.up e) (noDict_of_lay d (lay_of_shaped s))
theorem DqAll.len : ∀ {vs : List V} {ds : List PyData}, DqAll G vs ds → vs.length = ds.length
  | _, _, .nil => rfl
  | _, _, .cons _ t => by simp [DqAll.len t]
theorem DqAll.get : ∀ {vs : List V} {ds : List PyData} {i : Nat} {v : V}, DqAll G vs ds → vs[i]? = some v → ∃ d, ds[i]? = some d ∧ Dq G v d
  | _, _, _, _, .nil, h => by simp at h
  | _, _, 0, _, .cons h _, e => by simp at e; subst e; exact ⟨_, rfl, h⟩
  | _, _, i + 1, _, .cons _ t, e => by
    obtain ⟨d, h1, h2⟩ := DqAll.get t (i := i) (by simpa using e)
    exact ⟨d, by simpa using h1, h2⟩
theorem DqAll.at' : ∀ {vs : List V} {ds : List PyData} {i : Nat} {d : PyData}, DqAll G vs ds → ds[i]? = some d → ∃ v, vs[i]? = some v ∧ Dq G v d
  | _, _, _, _, .nil, h => by simp at h
  | _, _, 0, _, .cons h _, e => by simp at e; subst e; exact ⟨_, rfl, h⟩
  | _, _, i + 1, _, .cons _ t, e => by
    obtain ⟨d, h1, h2⟩ := DqAll.at' t (i := i) (by simpa using e)
    exact ⟨d, by simpa using h1, h2⟩
theorem DqAll.app : ∀ {vs ws : List V} {ds es : List PyData}, DqAll G vs ds → DqAll G ws es → DqAll G (vs ++ ws) (ds ++ es)
  | _, _, _, _, .nil, h => h
  | _, _, _, _, .cons h t, u => .cons h (DqAll.app t u)
theorem DqAll.take : ∀ {vs : List V} {ds : List PyData} (n : Nat), DqAll G vs ds → DqAll G (vs.take n) (ds.take n)
  | _, _, 0, _ => by simp; exact .nil
  | _, _, _ + 1, .nil => by simp; exact .nil
  | _, _, n + 1, .cons h t => by simp; exact .cons h (DqAll.take n t)
theorem DqAll.drop : ∀ {vs : List V} {ds : List PyData} (n : Nat), DqAll G vs ds → DqAll G (vs.drop n) (ds.drop n)
  | _, _, 0, h => h
  | _, _, _ + 1, .nil => .nil
  | _, _, n + 1, .cons _ t => by simpa using DqAll.drop n t
theorem DqAll.snoc {vs : List V} {ds : List PyData} {v : V} {d : PyData} (h : DqAll G vs ds) (k : Dq G v d) : DqAll G (vs ++ [v]) (ds ++ [d]) := h.app (.cons k .nil)
theorem DqAll.bls : ∀ {bs : List Bool} {vs : List V}, DqAll G vs (bs.map PyData.bool) → vs = bs.map V.bl
  | [], _, h => by cases h; rfl
  | b :: bs, _, h => by
    cases h with
    | cons h1 h2 =>
      cases h1
      rw [DqAll.bls h2]
      rfl
theorem DqAll.two {vs : List V} {a b : PyData} (h : DqAll G vs [a, b]) : ∃ x y, vs = [x, y] ∧ Dq G x a ∧ Dq G y b := by
  cases h with
  | cons h1 h2 =>
    cases h2 with
    | cons h3 h4 =>
      cases h4
      exact ⟨_, _, rfl, h1, h3⟩
theorem DqAll.one {vs : List V} {a : PyData} (h : DqAll G vs [a]) : ∃ x, vs = [x] ∧ Dq G x a := by
  cases h with
  | cons h1 h2 =>
    cases h2
    exact ⟨_, rfl, h1⟩

/-! ### what a reading leaves: the heap and its frozen part have grown -/
structure Ext (G H G' H' : Hp) : Prop where
  hh : Same H H'
  gg : Same G G'
  gh : Same G' H'
  fr : ∀ a, G' a ≠ none → G a ≠ none ∨ H a = none
theorem Ext.refl (h : Same G H) : Ext G H G H := ⟨Same.refl _, Same.refl _, h, fun _ h => .inl h⟩
theorem Same.none {a : Addr} (e : Same H H') (h : H' a = none) : H a = none := e.free h
theorem Ext.trans {G1 H1 G2 H2 : Hp} (a : Ext G H G1 H1) (b : Ext G1 H1 G2 H2) : Ext G H G2 H2 :=
  ⟨a.hh.trans b.hh, a.gg.trans b.gg, b.gh, fun x h => (b.fr x h).elim (fun q => a.fr x q) fun q => .inr (a.hh.free q)⟩
theorem Ext.new {p : Addr} {o : HO} (h : Same G H) (hp : H p = none) : Ext G H (upd G p o) (upd H p o) := by
  have gp : G p = none := h.free hp
  refine ⟨fun b u e => ?_, fun b u e => ?_, fun b u e => ?_, fun b e => ?_⟩
  · rw [upd_ne (ne_of_none e hp)]; exact e
  · rw [upd_ne (ne_of_none e gp)]; exact e
  · by_cases hb : b = p
    · subst hb; rw [upd_same] at e ⊢; exact e
    · rw [upd_ne hb] at e ⊢; exact h b u e
  · by_cases hb : b = p
    · subst hb; exact .inr hp
    · rw [upd_ne hb] at e; exact .inl e
/-- the heap alone has grown -/
theorem Ext.more (h : Same G H) (e : Same H H') : Ext G H G H' := ⟨e, Same.refl _, h.trans e, fun _ h => .inl h⟩
theorem same_new {p : Addr} {o : HO} (hp : H p = none) : Same H (upd H p o) := fun b u e => by
  rw [upd_ne (ne_of_none e hp)]; exact e
/-- a store at an address outside of the frozen part -/
theorem same_off {p : Addr} {o : HO} (h : Same G H) (hp : G p = none) : Same G (upd H p o) := fun b u e => by
  rw [upd_ne (ne_of_none e hp)]; exact h b u e
/-- a greater frozen part -/
theorem Ext.lift {G1 : Hp} (hG : Same G G1) (h1 : Same G1 H) (e : Ext G H G' H') : ∃ G2, Ext G1 H G2 H' ∧ Same G' G2 := by
  refine ⟨fun a => match G1 a with | some o => some o | none => G' a, ⟨e.hh, fun b u q => ?_, fun b u q => ?_, fun b q => ?_⟩, fun b u q => ?_⟩
  · show (match G1 b with | some o => some o | none => G' b) = some u
    rw [q]
  · have q : (match G1 b with | some o => some o | none => G' b) = some u := q
    cases z : G1 b with
    | some o => rw [z] at q; cases q; exact e.hh _ _ (h1 _ _ z)
    | none => rw [z] at q; exact e.gh _ _ q
  · have q : (match G1 b with | some o => some o | none => G' b) ≠ none := q
    cases z : G1 b with
    | some o => exact .inl (by simp)
    | none =>
      rw [z] at q
      rcases e.fr b q with y | y
      · cases w : G b with
        | none => exact absurd w y
        | some o => rw [hG _ _ w] at z; cases z
      · exact .inr y
  · show (match G1 b with | some o => some o | none => G' b) = some u
    cases z : G1 b with
    | some o =>
      have a1 := e.hh _ _ (h1 _ _ z)
      rw [e.gh _ _ q] at a1
      exact a1.symm
    | none => exact q
end

/-! ### readings -/
def PR (t : TE) (σ : L2.St) (G : Hp) (d : PyData) : Prop := ∀ (H : Hp) (Q : VK), Same G H → (∀ v G' H', Ext G H G' H' → Dq G' v d → Q v H') → t σ H Q
def PRA (t : TA) (σ : L2.St) (G : Hp) (ds : List PyData) : Prop := ∀ (H : Hp) (Q : List V → Hp → Prop), Same G H → (∀ vs G' H', Ext G H G' H' → DqAll G' vs ds → Q vs H') → t σ H Q
def TR (t : TT) (σ : L2.St) (G : Hp) (b : Bool) : Prop := ∀ (H : Hp) (Q : Bool → Hp → Prop), Same G H → (∀ H', Same H H' → Q b H') → t σ H Q
section
variable {σ : L2.St} {G G1 : Hp} {d d1 d2 : PyData} {ds : List PyData} {te ta tb : TE} {t : TA} {tt tu : TT} {b c : Bool}
theorem PR.mono (h : PR te σ G d) (e : Same G G1) : PR te σ G1 d := fun H Q hs k => h H Q (e.trans hs) fun v G' H' x dv => by
  obtain ⟨G2, y, z⟩ := x.lift e hs
  exact k v G2 H' y (dv.up z)
theorem PRA.mono (h : PRA t σ G ds) (e : Same G G1) : PRA t σ G1 ds := fun H Q hs k => h H Q (e.trans hs) fun v G' H' x dv => by
  obtain ⟨G2, y, z⟩ := x.lift e hs
  exact k v G2 H' y (dv.up z)
theorem TR.mono (h : TR tt σ G b) (e : Same G G1) : TR tt σ G1 b := fun H Q hs k => h H Q (e.trans hs) k
theorem PR.eq (h : PR te σ G d) (e : d = d1) : PR te σ G d1 := e ▸ h
theorem TR.eq (h : TR tt σ G b) (e : b = c) : TR tt σ G c := e ▸ h
theorem PR_var {i : Nat} {v : V} (h : σ[i]? = some (some v)) (k : Dq G v d) : PR (tVar i) σ G d := fun H Q hs q => ⟨v, h, q v G H (.refl hs) k⟩
theorem PR_c {v : V} (k : Dq G v d) : PR (tC v) σ G d := fun H Q hs q => q v G H (.refl hs) k
theorem PR_int {i : Int} : PR (tC (.int i)) σ G (.int i) := PR_c (.int i)
theorem PR_str {x : Str} : PR (tC (.str x)) σ G (.str x) := PR_c (.str x)
theorem PR_bl : PR (tC (.bl b)) σ G (.bool b) := PR_c (.bl b)
theorem PR_non : PR (tC .non) σ G .none := PR_c .non
theorem PRA_nil : PRA tNil σ G [] := fun H Q hs k => k [] G H (.refl hs) .nil
theorem PRA_cons (h : PR te σ G d) (r : PRA t σ G ds) : PRA (tCons te t) σ G (d :: ds) := fun H Q hs k =>
  h H _ hs fun v G1 H1 e1 dv => (r.mono e1.gg) H1 _ e1.gh fun vs G2 H2 e2 dvs => k (v :: vs) G2 H2 (e1.trans e2) (.cons (dv.up e2.gg) dvs)
theorem PRA_one (h : PR te σ G d) : PRA (tCons te tNil) σ G [d] := PRA_cons h PRA_nil
theorem PRA_two (h : PR ta σ G d1) (k : PR tb σ G d2) : PRA (tCons ta (tCons tb tNil)) σ G [d1, d2] := PRA_cons h (PRA_cons k PRA_nil)
theorem PR_lst (h : PRA t σ G ds) (z : ds.length ≤ sizeLine) : PR (tLst t) σ G (.list ds) := fun H Q hs k =>
  h H _ hs fun vs G1 H1 e1 dv => ⟨by rw [dv.len]; exact z, fun p hp => k (.ref p) _ _ (e1.trans (.new (o := .lst vs) e1.gh hp)) (.lst upd_same (dv.up (same_new (e1.gh.free hp))))⟩
theorem PR_tup (h : PRA t σ G ds) (z : ds.length ≤ sizeLine) : PR (tTup t) σ G (.tuple ds) := fun H Q hs k =>
  h H _ hs fun vs G1 H1 e1 dv => ⟨by rw [dv.len]; exact z, fun p hp => k (.ref p) _ _ (e1.trans (.new (o := .tup vs) e1.gh hp)) (.tup upd_same (dv.up (same_new (e1.gh.free hp))))⟩
/-- [*xs, ..] -/
theorem PRA_star {K : PySem.W.Frag} {es : List PyData} (h : PR te σ G (.list es)) (r : PRA t σ G ds) : PRA (tStar K te t) σ G (es ++ ds) := fun H Q hs k =>
  h H _ hs fun v G1 H1 e1 dv => by
    cases dv with
    | lst ha hall =>
      exact ⟨_, _, rfl, .inr (SqL.of (e1.gh _ _ ha)), (r.mono e1.gg) H1 _ e1.gh fun vs G2 H2 e2 dvs => k _ G2 H2 (e1.trans e2) ((hall.up e2.gg).app dvs)⟩
/-- rules by values -/
def RR (r : List V → Hp → VK → Prop) (ds : List PyData) (d : PyData) : Prop := ∀ (vs : List V) (G H : Hp) (Q : VK), Same G H → DqAll G vs ds → (∀ v G' H', Ext G H G' H' → Dq G' v d → Q v H') → r vs H Q
def RR2 (r : R2) (d1 d2 d : PyData) : Prop := ∀ (x y : V) (G H : Hp) (Q : VK), Same G H → Dq G x d1 → Dq G y d2 → (∀ v G' H', Ext G H G' H' → Dq G' v d → Q v H') → r x y H Q
theorem PR_CB {r : List V → Hp → VK → Prop} (hr : RR r ds d) (h : PRA t σ G ds) : PR (tCB r t) σ G d := fun H Q hs k =>
  h H _ hs fun vs G1 H1 e1 dv => hr vs G1 H1 Q e1.gh dv fun v G2 H2 e2 dv2 => k v G2 H2 (e1.trans e2) dv2
theorem PR_op {r : R2} (hr : RR2 r d1 d2 d) (h1 : PR ta σ G d1) (h2 : PR tb σ G d2) : PR (tOp r ta tb) σ G d := fun H Q hs k =>
  h1 H _ hs fun x G1 H1 e1 dx => (h2.mono e1.gg) H1 _ e1.gh fun y G2 H2 e2 dy => hr x y G2 H2 Q e2.gh (dx.up e2.gg) dy fun v G3 H3 e3 dv => k v G3 H3 ((e1.trans e2).trans e3) dv
/-! ### the built-in functions -/
variable {K : PySem.W.Frag}
theorem RR_all {bs : List Bool} : RR (rAll K) [.list (bs.map .bool)] (.bool (bs.all id)) := fun vs G H Q hs hd k => by
  obtain ⟨x, rfl, hx⟩ := hd.one
  cases hx with
  | lst ha hall =>
    rw [hall.bls] at ha
    exact ⟨_, bs, rfl, SqL.of (hs _ _ ha), k _ G H (.refl hs) (.bl _)⟩
theorem RR_any {bs : List Bool} : RR (rAny K) [.list (bs.map .bool)] (.bool (bs.any id)) := fun vs G H Q hs hd k => by
  obtain ⟨x, rfl, hx⟩ := hd.one
  cases hx with
  | lst ha hall =>
    rw [hall.bls] at ha
    exact ⟨_, bs, rfl, SqL.of (hs _ _ ha), k _ G H (.refl hs) (.bl _)⟩
theorem RR_lenL {es : List PyData} : RR (fun xs H Q => ∃ p ys, xs = [.ref p] ∧ (SqL K H p ys ∨ SqT K H p ys) ∧ Q (.int ys.length) H) [.list es] (.int es.length) := fun vs G H Q hs hd k => by
  obtain ⟨x, rfl, hx⟩ := hd.one
  cases hx with
  | lst ha hall =>
    refine ⟨_, _, rfl, .inl (SqL.of (hs _ _ ha)), ?_⟩
    rw [hall.len]
    exact k _ G H (.refl hs) (.int _)
theorem RR_lenT {es : List PyData} : RR (fun xs H Q => ∃ p ys, xs = [.ref p] ∧ (SqL K H p ys ∨ SqT K H p ys) ∧ Q (.int ys.length) H) [.tuple es] (.int es.length) := fun vs G H Q hs hd k => by
  obtain ⟨x, rfl, hx⟩ := hd.one
  cases hx with
  | tup ha hall =>
    refine ⟨_, _, rfl, .inr (SqT.of (hs _ _ ha)), ?_⟩
    rw [hall.len]
    exact k _ G H (.refl hs) (.int _)
theorem RR_listL {es : List PyData} : RR (fun xs H Q => ∃ p ys, xs = [.ref p] ∧ (SqL K H p ys ∨ SqT K H p ys) ∧ ∀ l, H l = none → Q (.ref l) (upd H l (.lst ys))) [.list es] (.list es) := fun vs G H Q hs hd k => by
  obtain ⟨x, rfl, hx⟩ := hd.one
  cases hx with
  | lst ha hall =>
    exact ⟨_, _, rfl, .inl (SqL.of (hs _ _ ha)), fun l hl => k _ _ _ (.new hs hl) (.lst upd_same (hall.up (same_new (hs.free hl))))⟩
theorem RR_listT {es : List PyData} : RR (fun xs H Q => ∃ p ys, xs = [.ref p] ∧ (SqL K H p ys ∨ SqT K H p ys) ∧ ∀ l, H l = none → Q (.ref l) (upd H l (.lst ys))) [.tuple es] (.list es) := fun vs G H Q hs hd k => by
  obtain ⟨x, rfl, hx⟩ := hd.one
  cases hx with
  | tup ha hall =>
    exact ⟨_, _, rfl, .inr (SqT.of (hs _ _ ha)), fun l hl => k _ _ _ (.new hs hl) (.lst upd_same (hall.up (same_new (hs.free hl))))⟩
theorem RR_tupleL {es : List PyData} : RR (fun xs H Q => ∃ p ys, xs = [.ref p] ∧ ((SqL K H p ys ∧ ∀ l, H l = none → Q (.ref l) (upd H l (.tup ys))) ∨ (SqT K H p ys ∧ Q (.ref p) H))) [.list es] (.tuple es) := fun vs G H Q hs hd k => by
  obtain ⟨x, rfl, hx⟩ := hd.one
  cases hx with
  | lst ha hall =>
    exact ⟨_, _, rfl, .inl ⟨SqL.of (hs _ _ ha), fun l hl => k _ _ _ (.new hs hl) (.tup upd_same (hall.up (same_new (hs.free hl))))⟩⟩
theorem RR_tupleT {es : List PyData} : RR (fun xs H Q => ∃ p ys, xs = [.ref p] ∧ ((SqL K H p ys ∧ ∀ l, H l = none → Q (.ref l) (upd H l (.tup ys))) ∨ (SqT K H p ys ∧ Q (.ref p) H))) [.tuple es] (.tuple es) := fun vs G H Q hs hd k => by
  obtain ⟨x, rfl, hx⟩ := hd.one
  cases hx with
  | tup ha hall =>
    exact ⟨_, _, rfl, .inr ⟨SqT.of (hs _ _ ha), k _ G H (.refl hs) (.tup ha hall)⟩⟩
theorem RR2_eq (s1 : SeqAt.shaped d1 = true) (s2 : SeqAt.shaped d2 = true) : RR2 (rEqD K) d1 d2 (.bool (PyData.eqv d1 d2)) := fun x y G H Q hs h1 h2 k =>
  ⟨d1, d2, h1.toDp s1 hs, h2.toDp s2 hs, s1, s2, k _ G H (.refl hs) (.bl _)⟩
theorem RR2_ne (s1 : SeqAt.shaped d1 = true) (s2 : SeqAt.shaped d2 = true) : RR2 (rNeD K) d1 d2 (.bool (!PyData.eqv d1 d2)) := fun x y G H Q hs h1 h2 k =>
  ⟨d1, d2, h1.toDp s1 hs, h2.toDp s2 hs, s1, s2, k _ G H (.refl hs) (.bl _)⟩
theorem RR2_in {es : List PyData} (s1 : SeqAt.shaped d1 = true) (s2 : SeqAt.shaped (.list es) = true) : RR2 (rInD K) d1 (.list es) (.bool (es.any fun z => PyData.eqv z d1)) := fun x y G H Q hs h1 h2 k =>
  ⟨d1, es, h1.toDp s1 hs, h2.toDp s2 hs, s1, s2, k _ G H (.refl hs) (.bl _)⟩
theorem RR2_notin {es : List PyData} (s1 : SeqAt.shaped d1 = true) (s2 : SeqAt.shaped (.list es) = true) : RR2 (rNotInD K) d1 (.list es) (.bool (!es.any fun z => PyData.eqv z d1)) := fun x y G H Q hs h1 h2 k =>
  ⟨d1, es, h1.toDp s1 hs, h2.toDp s2 hs, s1, s2, k _ G H (.refl hs) (.bl _)⟩
theorem RR2_ixL {es : List PyData} {j : Nat} (h : es[j]? = some d) : RR2 (rIxL K) (.list es) (.int j) d := fun x y G H Q hs h1 h2 k => by
  cases h1 with
  | lst ha hall =>
    cases h2
    obtain ⟨v, e1, e2⟩ := hall.at' h
    exact ⟨_, _, _, v, rfl, rfl, SqL.of (hs _ _ ha), atI_nat e1, k _ G H (.refl hs) e2⟩
theorem RR2_ixT {es : List PyData} {j : Nat} (h : es[j]? = some d) : RR2 (rIxT K) (.tuple es) (.int j) d := fun x y G H Q hs h1 h2 k => by
  cases h1 with
  | tup ha hall =>
    cases h2
    obtain ⟨v, e1, e2⟩ := hall.at' h
    exact ⟨_, _, _, v, rfl, rfl, SqT.of (hs _ _ ha), atI_nat e1, k _ G H (.refl hs) e2⟩
theorem RR2_cat {es fs : List PyData} (z : es.length + fs.length ≤ sizeLine) : RR2 rCat (.list es) (.list fs) (.list (es ++ fs)) := fun x y G H Q hs h1 h2 k => by
  cases h1 with
  | lst ha hall =>
    cases h2 with
    | lst hb hbll =>
      exact ⟨_, _, _, _, rfl, rfl, hs _ _ ha, hs _ _ hb, by rw [hall.len, hbll.len]; exact z, fun p hp => k _ _ _ (.new hs hp) (.lst upd_same ((hall.app hbll).up (same_new (hs.free hp))))⟩
/-! ### tests -/
theorem TR_test (h : PR te σ G (.bool b)) : TR (tTest te) σ G b := fun H Q hs k => h H _ hs fun v G' H' e dv => by
  cases dv
  exact ⟨b, rfl, k H' e.hh⟩
theorem TR_tB (h : PR te σ G (.bool b)) : TR (tB te) σ G b := fun H Q hs k => h H _ hs fun v G' H' e dv => by
  cases dv
  exact ⟨b, rfl, k H' e.hh⟩
theorem TR_not (h : TR tt σ G b) : TR (tNot tt) σ G (!b) := fun H Q hs k => h H _ hs fun H' e => k H' e
theorem TR_and (h : TR tt σ G b) (u : b = true → TR tu σ G c) : TR (tAnd tt tu) σ G (b && c) := fun H Q hs k => h H _ hs fun H' e => by
  cases b with
  | true => exact iteT (u rfl H' Q (hs.trans e) fun H2 e2 => k H2 (e.trans e2))
  | false => exact iteF (k H' e)
theorem TR_or (h : TR tt σ G b) (u : b = false → TR tu σ G c) : TR (tOr tt tu) σ G (b || c) := fun H Q hs k => h H _ hs fun H' e => by
  cases b with
  | true => exact iteT (k H' e)
  | false => exact iteF (u rfl H' Q (hs.trans e) fun H2 e2 => k H2 (e.trans e2))
theorem TR_yes : TR tYes σ G true := fun H Q hs k => k H (Same.refl _)
theorem PR_if (h : TR tt σ G b) (ht : b = true → PR ta σ G d) (hf : b = false → PR tb σ G d) : PR (tIf tt ta tb) σ G d := fun H Q hs k => h H _ hs fun H' e => by
  cases b with
  | true => exact iteT (ht rfl H' Q (hs.trans e) fun v G2 H2 e2 dv => k v G2 H2 ((Ext.more hs e).trans e2) dv)
  | false => exact iteF (hf rfl H' Q (hs.trans e) fun v G2 H2 e2 dv => k v G2 H2 ((Ext.more hs e).trans e2) dv)
theorem PR_andV (h : PR ta σ G (.bool b)) (u : b = true → PR tb σ G (.bool c)) : PR (tAndV ta tb) σ G (.bool (b && c)) := fun H Q hs k => h H _ hs fun v G' H' e dv => by
  cases dv
  refine ⟨b, rfl, ?_⟩
  cases b with
  | true => exact iteT ((u rfl).mono e.gg H' Q e.gh fun v G2 H2 e2 dv => k v G2 H2 (e.trans e2) dv)
  | false => exact iteF (k _ G' H' e (.bl _))
theorem PR_orV (h : PR ta σ G (.bool b)) (u : b = false → PR tb σ G (.bool c)) : PR (tOrV ta tb) σ G (.bool (b || c)) := fun H Q hs k => h H _ hs fun v G' H' e dv => by
  cases dv
  refine ⟨b, rfl, ?_⟩
  cases b with
  | true => exact iteT (k _ G' H' e (.bl _))
  | false => exact iteF ((u rfl).mono e.gg H' Q e.gh fun v G2 H2 e2 dv => k v G2 H2 (e.trans e2) dv)
theorem PR_notV (h : PR ta σ G (.bool b)) : PR (tNotV ta) σ G (.bool (!b)) := fun H Q hs k => h H _ hs fun v G' H' e dv => by
  cases dv
  exact ⟨b, rfl, k _ G' H' e (.bl _)⟩
/-! ### slices from the head: xs[:n] -/
theorem cutV_take {α : Type} (xs : List α) (n : Nat) : (xs.drop (HT.sIx xs.length 0 none)).take (HT.sIx xs.length xs.length (some (n : Int)) - HT.sIx xs.length 0 none) = xs.take n := by
  rw [HT.sIx_none, HT.sIx_nat]
  simp only [List.drop_zero, Nat.sub_zero]
  rw [List.take_eq_take_iff]
  omega
theorem PR_slTo {es : List PyData} {n : Nat} (h1 : PR ta σ G (.list es)) (h2 : PR tb σ G (.int n)) : PR (tSl (rSlL K) ta tNoPart (tPart tb)) σ G (.list (es.take n)) := fun H Q hs k =>
  h1 H _ hs fun x G1 H1 e1 dx => (h2.mono e1.gg) H1 _ e1.gh fun y G2 H2 e2 dy => by
    cases dy
    refine ⟨_, rfl, ?_⟩
    cases dx with
    | lst ha hall =>
      refine ⟨_, _, rfl, SqL.of (e2.hh _ _ (e1.gh _ _ ha)), fun p hp => ?_⟩
      have ec : ∀ xs : List V, cutV xs none (some (n : Int)) = xs.take n := fun xs => cutV_take xs n
      rw [ec]
      exact k _ _ _ ((e1.trans e2).trans (.new e2.gh hp)) (.lst upd_same ((hall.take n).up (e2.gg.trans (same_new (e2.gh.free hp)))))
/-! ### pure defs -/
/-- the def hands back the data that D says of its arguments; nothing that stands is touched -/
def spP (D : List PyData → PyData → Prop) : Sp := fun vs H Q _ => ∃ G ds d, Same G H ∧ DqAll G vs ds ∧ D ds d ∧ ∀ v G' H', Ext G H G' H' → Dq G' v d → Q v H'
theorem PR_call {D : List PyData → PyData → Prop} {E : XK} (h : PRA t σ G ds) (hD : D ds d) : PR (tCall (spP D) [] E t) σ G d := fun H Q hs k =>
  h H _ hs fun vs G1 H1 e1 dv => ⟨G1, ds, d, e1.gh, by rw [List.append_nil]; exact dv, hD, fun v G2 H2 e2 dv2 => k v G2 H2 (e1.trans e2) dv2⟩
/-! ### isinstance -/
def tyOf : PyData → String
  | .none => "NoneType"
  | .bool _ => "bool"
  | .int _ => "int"
  | .str _ => "str"
  | .list _ => "list"
  | .tuple _ => "tuple"
  | .dict _ => "dict"
/-- no instance -/
def plain : PyData → Bool
  | .dict (_ :: _) => false
  | _ => true
theorem Dq.ty {H : Hp} {v : V} {d : PyData} (h : Dq H v d) (hp : plain d = true) : TyX K H v (.type (tyOf d)) := by
  cases h with
  | non => exact .base .non
  | bl b => exact .base (.bl b)
  | int i => exact .base (.int i)
  | str x => exact .base (.str x)
  | lst h _ => exact .base (.lst h)
  | tup h _ => exact .base (.tup h)
  | dict h => exact .base (.dK h)
  | ins => cases hp
/-- what isinstance needs to know of an own class -/
structure PCls (K : PySem.W.Frag) (C : Addr) : Prop where
  cl : Cls K C
  ha : PySem.W.findIn K (.ref C) "__class__" = some (some (.builtin "object.__class__"))
  hn : PySem.W.specialIn K (.builtin "object.__class__") "__get__" = some (some (.builtin "getset_descriptor.__get__"))
  htk : PySem.W.takesIn K (.builtin "object.__class__") = some true
  hm : PySem.W.mroIn K C (.type "object") = some true
  no : ∀ T : String, T ∈ ["list", "tuple", "dict", "str", "bool", "int"] → PySem.W.kitOne K (.ref C) (.type T) = some false
  yes : PySem.W.kitOne K (.ref C) (.ref C) = some true
  off : ∀ T : String, T ∈ ["NoneType", "bool", "int", "str", "list", "tuple", "dict"] → PySem.W.kitOne K (.type T) (.ref C) = some false
theorem Dq.tyI {H : Hp} {v : V} {C : Addr} {xs : List Str} {ds : List PyData} (h : Dq H v (insD C xs ds)) (c : PCls K C) : TyX K H v (.ref C) := by
  obtain ⟨a, dx, vs, rfl, h1, _⟩ := h.insE
  exact .base (.ins h1 c.cl c.ha c.hn c.htk c.hm)
theorem tyOf_mem (d : PyData) : tyOf d ∈ ["NoneType", "bool", "int", "str", "list", "tuple", "dict"] := by cases d <;> simp [tyOf]
theorem PR_isi {T : String} (h : PR te σ G d) (hk : kitB (tyOf d) T = some b) (hp : plain d = true := by rfl) : PR (tCB (rIsi K) (tCons te (tCons (tC (.ty T)) tNil))) σ G (.bool b) := fun H Q hs k =>
  h H _ hs fun v G1 H1 e1 dv => ⟨v, .ty T, _, _, b, rfl, .ty T, (dv.up e1.gh).ty hp, kit_ty hk, k _ G1 H1 e1 (.bl b)⟩
/-- an instance is none of a built-in type -/
theorem PR_isiI {T : String} {C : Addr} {xs : List Str} {es : List PyData} (c : PCls K C) (h : PR te σ G (insD C xs es)) (hT : T ∈ ["list", "tuple", "dict", "str", "bool", "int"]) : PR (tCB (rIsi K) (tCons te (tCons (tC (.ty T)) tNil))) σ G (.bool false) := fun H Q hs k =>
  h H _ hs fun v G1 H1 e1 dv => ⟨v, .ty T, _, _, false, rfl, .ty T, (dv.up e1.gh).tyI c, c.no T hT, k _ G1 H1 e1 (.bl _)⟩
/-- isinstance(x, C), C an own class -/
theorem PR_isiC {C : Addr} {ds : List PyData} {xs : List Str} {te : TE} (c : PCls K C) (h : PR te σ G (insD C xs ds)) : PR (tCB (rIsi K) (tCons te (tCons (tC (.ref C)) tNil))) σ G (.bool true) := fun H Q hs k =>
  h H _ hs fun v G1 H1 e1 dv => ⟨v, .ref C, _, _, true, rfl, .own C, (dv.up e1.gh).tyI c, c.yes, k _ G1 H1 e1 (.bl _)⟩
theorem PR_isiN {C : Addr} {te : TE} (c : PCls K C) (h : PR te σ G d) (hp : plain d = true := by rfl) : PR (tCB (rIsi K) (tCons te (tCons (tC (.ref C)) tNil))) σ G (.bool false) := fun H Q hs k =>
  h H _ hs fun v G1 H1 e1 dv => ⟨v, .ref C, _, _, false, rfl, .own C, (dv.up e1.gh).ty hp, c.off _ (tyOf_mem d), k _ G1 H1 e1 (.bl _)⟩
theorem kit2 {K : PySem.W.Frag} {x T U : String} {b c : Bool} (hk : kitB x T = some b) (hu : kitB x U = some c) : PySem.W.kitAny K (.type x) [.type T, .type U] = some (b || c) := by
  refine kitAny_cons (kit_ty hk) (fun e => ?_) (fun e => by rw [e]; rfl)
  rw [e, Bool.false_or]
  exact kitAny_cons (kit_ty hu) (fun e2 => by rw [e2]; exact kitAny_nil) (fun e2 => e2)
theorem PR_isi2 {T U : String} {c : Bool} (h : PR te σ G d) (hk : kitB (tyOf d) T = some b) (hu : kitB (tyOf d) U = some c) (hp : plain d = true := by rfl) :
    PR (tCB (rIsiT K) (tCons te (tCons (tTup (tCons (tC (.ty T)) (tCons (tC (.ty U)) tNil))) tNil))) σ G (.bool (b || c)) := fun H Q hs k =>
  h H _ hs fun v G1 H1 e1 dv => ⟨by show 2 ≤ sizeLine; rw [sizeLine_eq]; omega, fun p hq =>
    ⟨v, p, [.ty T, .ty U], _, [.type T, .type U], b || c, rfl, upd_same, .cons (.ty T) (.cons (.ty U) .nil), ((dv.up e1.gh).up (same_new hq)).ty hp,
      kit2 hk hu,
      k _ G1 _ (e1.trans (Ext.more e1.gh (same_new hq))) (.bl _)⟩⟩
/-- an instance and two built-in types -/
theorem PR_isi2I {T U : String} {C : Addr} {xs : List Str} {es : List PyData} (c : PCls K C) (h : PR te σ G (insD C xs es)) (hT : T ∈ ["list", "tuple", "dict", "str", "bool", "int"]) (hU : U ∈ ["list", "tuple", "dict", "str", "bool", "int"]) :
    PR (tCB (rIsiT K) (tCons te (tCons (tTup (tCons (tC (.ty T)) (tCons (tC (.ty U)) tNil))) tNil))) σ G (.bool false) := fun H Q hs k =>
  h H _ hs fun v G1 H1 e1 dv => ⟨by show 2 ≤ sizeLine; rw [sizeLine_eq]; omega, fun p hq =>
    ⟨v, p, [.ty T, .ty U], _, [.type T, .type U], false, rfl, upd_same, .cons (.ty T) (.cons (.ty U) .nil), ((dv.up e1.gh).up (same_new hq)).tyI c,
      kitAny_cons (c.no T hT) (fun _ => kitAny_cons (c.no U hU) (fun _ => kitAny_nil) fun e => by cases e) (fun e => by cases e),
      k _ G1 _ (e1.trans (Ext.more e1.gh (same_new hq))) (.bl _)⟩⟩
end
end PD
set_option Elab.async false
set_option linter.all false
set_option maxRecDepth 100000
set_option maxHeartbeats 4000000
/-! PdSort: sorted of data that can be compared place by place, tuples without items among them; sorted by len -/
namespace PD
open PySem PySem.W PySem.SeqAt PyProof.Rows
section
variable {prog : Program} {w : World} {A : Around} {E : Value → Shared → Prop} {s : Shared}
/-- the first items of tuples -/
def frst : PyData → Bool
  | .tuple (_ :: _) => true
  | _ => false
theorem mapFirsts : ∀ {vs : List Value} {ds : List PyData} {Q : List (Option Value) → Shared → Prop}, EachIs (fun v d => ∃ as, Reads s.heap v d as) vs ds → (∀ d, d ∈ ds → ∃ xs, d = .tuple xs) →
    (∀ fs : List (Option Value), fs.map (·.isSome) = ds.map frst → Q fs s) → wpAny (model prog w) A (vs.mapM firstOfTuple') Q E s
  | _, _, Q, .nil, _, h => by
    rw [List.mapM_nil]
    exact wpAny_pure (h [] rfl)
  | _, _, Q, .cons (a := v) (b := d) (as := vs) (bs := ds) ⟨as, r⟩ t, hd, h => by
    rw [List.mapM_cons, kas_first_eq]
    obtain ⟨xs, rfl⟩ := hd d (List.mem_cons_self ..)
    have lk : Looks (model prog w) s.heap (typeOf v) (Value.type "tuple") := looks_reads r
    cases r with
    | @tuple l o its n _ _ h1 h2 h3 h4 =>
      refine wpAny_bind (wpAny_bind (lk.here ?_))
      rw [if_neg (by simp)]
      refine wpAny_bind (listItems_at h1 h3 (wpAny_pure ?_))
      refine wpAny_bind (mapFirsts t (fun d m => hd d (List.mem_cons_of_mem _ m)) fun fs e => wpAny_pure (h _ ?_))
      rw [List.map_cons, List.map_cons, e]
      have n1 : its.size = xs.length := by simpa using SeqAt.ReadsAll.length _ _ _ h4
      congr 1
      cases xs with
      | nil =>
        have : its[0]? = none := by rw [Array.getElem?_eq_none_iff, n1]; simp
        rw [this]; rfl
      | cons x r =>
        have : ∃ y, its[0]? = some y := ⟨its[0]'(by rw [n1]; simp), by simp⟩
        obtain ⟨y, e⟩ := this
        rw [e]; rfl
/-- tuples, one of them without items -/
theorem tupKind {vs : List Value} {ds : List PyData} {Q : SortKind → Shared → Prop} (e : EachIs (fun v d => ∃ as, Reads s.heap v d as) vs ds) (ht : ∀ d, d ∈ ds → ∃ xs, d = .tuple xs) (hm : PyData.tuple [] ∈ ds)
    (h : Q (if (ds.map frst).head? = some true then general' else oneType') s) : wpAny (model prog w) A (keyKind' vs.toArray) Q E s := by
  rw [keyKind'_eq, List.mapM_toArray, map_eq_pure_bind]
  refine wpAny_bind (wpAny_bind (mapFirsts e ht fun fs ef => wpAny_pure ?_))
  have h1 : (fs.toArray.all fun x => x.isSome) = false := by
    rw [List.all_toArray]
    have : (fs.map (·.isSome)).all id = false := by
      rw [ef, List.all_eq_false]
      exact ⟨false, List.mem_map.mpr ⟨_, hm, rfl⟩, by simp⟩
    rw [List.all_map] at this
    exact this
  rw [if_neg (by rw [h1]; simp)]
  have h2 : (fs.toArray[0]?.bind id).isSome = decide ((ds.map frst).head? = some true) := by
    rw [← ef]
    cases fs with
    | nil => rfl
    | cons f r => cases f <;> simp
  rw [h2]
  by_cases q : (ds.map frst).head? = some true
  · rw [if_pos (by simpa using q)]
    rw [if_pos q] at h
    exact wpAny_pure h
  · rw [if_neg (by simpa using q)]
    rw [if_neg q] at h
    rw [oneTypeOnly'_eq, List.mapM_toArray, map_eq_pure_bind]
    refine wpAny_bind (wpAny_bind (wpAny_bind (kas_mapM (r := Value.type "tuple") _ (fun v hv Q' hq => ?_) (wpAny_pure ?_))))
    · obtain ⟨d, hd, as, r⟩ := e.left v hv
      obtain ⟨xs, rfl⟩ := ht d hd
      exact (looks_reads r).here hq
    · have hne : vs ≠ [] := by
        intro z
        subst z
        cases e
        simp at hm
      obtain ⟨v, r, rfl⟩ : ∃ v r, vs = v :: r := by
        cases vs with
        | nil => exact absurd rfl hne
        | cons v r => exact ⟨v, r, rfl⟩
      have h0 : (List.map (fun _ => Value.type "tuple") (v :: r)).toArray[0]? = some (Value.type "tuple") := by simp
      have hall : ((List.map (fun _ => Value.type "tuple") (v :: r)).toArray.all fun x => x == Value.type "tuple") = true := by
        simp only [List.all_toArray, List.all_map, List.all_eq_true]
        intro _ _
        exact beq_self_eq_true _
      rw [h0]
      simp only [hall, if_true]
      exact wpAny_pure (wpAny_pure h)
theorem callTupLt {E : Value → Shared → Prop} {Q : Value → Shared → Prop} {l b : Addr} {items items2 : Array Value} {e r : Nat → Bool} (hl : s.heap.IsTuple l items) (hb : s.heap.IsTuple b items2)
    (he : ∀ j (h1 : j < items.size) (h2 : j < items2.size), EqAt A.in1 s items[j] items2[j] (e j)) (hr : ∀ j (h1 : j < items.size) (h2 : j < items2.size), e j = false → RcLt A.in1 s items[j] items2[j] (r j))
    (h : Q (.bool (firstLt e r (decide (items.size < items2.size)) (List.range (min items.size items2.size)))) s) : wpAny (model prog w) A (call (.builtin "tuple.__lt__") [.ref l, .ref b]) Q E s := by
  obtain ⟨⟨c1, d1, t1, s1⟩, ho, hc, n, hd⟩ := id hl
  obtain ⟨⟨c2, d2, t2, s2⟩, ho2, hc2, n2, hd2⟩ := id hb
  simp only at hc hd hc2 hd2
  subst hc hd hc2 hd2
  exact call_meets F.slot_tuple_lt ⟨_, ho, rfl⟩ F.entry_tuple_lt (F.args_tuple_lt_2 _ _) (tuple_ltAt l b items items2 n n2 d1 d2 s1 s2 e r) ⟨ho, ho2, he, hr, h⟩
/-- one tuple against another, as sorting one type asks -/
theorem oneLtTup {xs ys : List PyData} {a b : Value} {as bs : List Addr} {Q : Bool → Shared → Prop} (ra : Reads s.heap a (.tuple xs) as) (rb : Reads s.heap b (.tuple ys) bs) (h : alike (.tuple xs) (.tuple ys) = true)
    (hu : A.units + min (PyData.depth (.tuple xs)) (PyData.depth (.tuple ys)) < cLine) (hq : Q (dataLt (.tuple xs) (.tuple ys)) s) : wpAny (model prog w) A (oneLt' true a b) Q E s := by
  have hal : alikeAll xs ys = true := by simpa [alike] using h
  cases ra with
  | @tuple l o vs n _ as₁ h1 h2 h3 h4 =>
    cases rb with
    | @tuple l' o' vs' n' _ bs₁ k1 k2 k3 k4 =>
      have n1 : vs.size = xs.length := by simpa using ReadsAll.length _ _ _ h4
      have n2 : vs'.size = ys.length := by simpa using ReadsAll.length _ _ _ k4
      have hi : A.units + 1 + min (PyData.depthAll xs) (PyData.depthAll ys) < cLine := by
        have q : A.units + min (PyData.depthAll xs + 1) (PyData.depthAll ys + 1) < cLine := by simpa [PyData.depth, Nat.add_comm] using hu
        exact room_in q
      rw [dataLt_tuple, ← firstLt_toks xs ys hal, ← n1, ← n2] at hq
      rw [oneLt'_eq, if_pos rfl]
      refine wpAny_bind (wpAny_cRoomFor (room_here hu) (wpAny_bind (wpAny_callSpecialIfBound?_slot (T := "tuple") ⟨_, h1, h2⟩ F.slot_tuple_lt
        (callTupLt (e := pairEq xs ys) (r := fun j => dataLt (xs.getD j .none) (ys.getD j .none)) ⟨_, h1, h2, _, h3⟩ ⟨_, k1, k2, _, k3⟩ (fun j j1 j2 => ?_) (fun j j1 j2 hj => ?_) ?_))))
      · exact eqAt_alikeAll xs ys A.in1 s vs.toList vs'.toList _ _ h4 k4 hal hi j (by simpa using j1) (by simpa using j2)
      · exact rcLt_alikeAll xs ys A.in1 s vs.toList vs'.toList _ _ h4 k4 hal hi j (by simpa using j1) (by simpa using j2) hj
      · exact wpAny_truthy_bool hq
/-- all tuples, some without items -/
theorem sortsAtTup {vs : List Value} {ds : List PyData} (e : EachIs (fun v d => ∃ as, Reads s.heap v d as) vs ds) (hal : AllAlike ds) (ht : ∀ d, d ∈ ds → ∃ xs, d = .tuple xs) (hm : PyData.tuple [] ∈ ds) (hu : ∀ d, d ∈ ds → A.units + d.depth < cLine) :
    SortsAt prog w A s (dataKind s.heap ds) vs := by
  have room : ∀ {d d' : PyData}, d ∈ ds → A.units + min d.depth d'.depth < cLine := fun {d d'} hd => Nat.lt_of_le_of_lt (Nat.add_le_add_left (Nat.min_le_left _ _) _) (hu d hd)
  refine ⟨fun v hv => ?_, _, ?_, fun _ E Q hq => tupKind e ht hm hq⟩
  · obtain ⟨d, hd, as, r⟩ := e.left v hv
    exact ⟨_, dataKind_some hal hd r⟩
  · intro E x y a b Q ha hb hq
    obtain ⟨d, as, hd, ra, rfl⟩ := dataKind_inv ha
    obtain ⟨d', as', hd', rb, rfl⟩ := dataKind_inv hb
    obtain ⟨xs, rfl⟩ := ht d hd
    obtain ⟨ys, rfl⟩ := ht d' hd'
    split
    · exact oneLt_alike (f := false) (fun z => by cases z) ra rb (hal _ hd _ hd') (by simp) (room hd) hq
    · exact oneLtTup ra rb (hal _ hd _ hd') (room hd) hq
/-- alike data, no None: sorting them is defined -/
theorem sortsAtAny {vs : List Value} {ds : List PyData} (e : EachIs (fun v d => ∃ as, Reads s.heap v d as) vs ds) (hal : AllAlike ds) (hn : ∀ d, d ∈ ds → d ≠ .none) (hu : ∀ d, d ∈ ds → A.units + d.depth < cLine) :
    SortsAt prog w A s (dataKind s.heap ds) vs := by
  by_cases hm : PyData.tuple [] ∈ ds
  · refine sortsAtTup e hal (fun d hd => ?_) hm hu
    have q := hal _ hm d hd
    cases d with
    | tuple xs => exact ⟨xs, rfl⟩
    | _ => simp [alike] at q
  · refine SortsAt.data e hal ?_ hu
    by_cases ht : ∃ xs, PyData.tuple xs ∈ ds
    · obtain ⟨xs, hx⟩ := ht
      refine .inl fun d hd => ?_
      have q := hal _ hx d hd
      cases d with
      | tuple ys =>
        cases ys with
        | nil => exact absurd hd hm
        | cons y r => exact ⟨y, r, rfl⟩
      | _ => simp [alike] at q
    · exact .inr fun d hd => ⟨hn d hd, fun xs z => ht ⟨xs, z ▸ hd⟩⟩
end
end PD

namespace PD
open PySem PySem.Spec PyProof.Rows L2
/-- a before b or level with it -/
def leD (a b : PyData) : Bool := !PySem.W.dataLt b a
/-- THE sorted list -/
def sortD (ds : List PyData) : List PyData := ds.mergeSort leD
theorem dpAll_len {K : PySem.W.Frag} {H : Hp} : ∀ {vs : List V} {ds : List PyData}, DpAll K H vs ds → vs.length = ds.length
  | _, _, .nil => rfl
  | _, _, .cons _ t => by simp [dpAll_len t]
theorem dpAll_each {X : Cx} {pins : List (Addr × Obj)} {σ : L2.St} {H : Hp} {s : Shared} (I : Inv X pins σ H s) : ∀ {xs : List V} {ds : List PyData} {us : List Value}, DpAll X.K H xs ds → Vals xs us →
    PySem.W.EachIs (fun u (b : V × PyData) => RelV b.1 u ∧ Dp X.K H b.1 b.2) us (xs.zip ds)
  | _, _, _, .nil, .nil => .nil
  | _, _, _, .cons h t, .cons r q => .cons ⟨r, h⟩ (dpAll_each I t q)
theorem each_vals {α : Type} {R : Value → V × α → Prop} (hR : ∀ u b, R u b → RelV b.1 u) : ∀ {us : List Value} {bs : List (V × α)}, PySem.W.EachIs R us bs → Vals (bs.map (·.1)) us
  | _, _, .nil => .nil
  | _, _, .cons h t => .cons (hR _ _ h) (each_vals hR t)
theorem zip_snd {α β : Type} : ∀ {xs : List α} {ys : List β}, xs.length = ys.length → (xs.zip ys).map (·.2) = ys
  | [], [], _ => rfl
  | x :: xs, y :: ys, h => by simp [zip_snd (xs := xs) (ys := ys) (by simpa using h)]
  | [], _ :: _, h => by simp at h
  | _ :: _, [], h => by simp at h
theorem zip_fst {α β : Type} : ∀ {xs : List α} {ys : List β}, xs.length = ys.length → (xs.zip ys).map (·.1) = xs
  | [], [], _ => rfl
  | x :: xs, y :: ys, h => by simp [zip_fst (xs := xs) (ys := ys) (by simpa using h)]
  | [], _ :: _, h => by simp at h
  | _ :: _, [], h => by simp at h
/-- sorted(xs) of alike data -/
def rSortedD (K : PySem.W.Frag) : List V → Hp → VK → Prop := fun vs H Q => ∃ (a : Addr) (xs : List V) (ds : List PyData), vs = [.ref a] ∧ SqL K H a xs ∧ DpAll K H xs ds ∧ PySem.W.AllAlike ds ∧ (∀ d, d ∈ ds → d ≠ .none ∧ d.depth ≤ 60) ∧
  ∀ (zs : List (V × PyData)) (p : Addr), zs.Perm (xs.zip ds) → zs.map (·.2) = sortD ds → H p = none → Q (.ref p) (upd H p (.lst (zs.map (·.1))))
theorem cr_sortedD {X : Cx} (hu : X.A.units + 64 < cLine) : CallR X (.builtin "sorted") (rSortedD X.K) := by
  intro pins s σ H vs us Q I r h
  obtain ⟨a, xs, ds, rfl, hs, hd, hal, hn, q⟩ := h
  obtain ⟨its, rv, hl, hz⟩ := I.list hs
  obtain ⟨u, rfl, ru⟩ := vals1 r
  obtain rfl : u = Value.ref a := ru
  have hlen : xs.length = ds.length := dpAll_len hd
  have e := dpAll_each I hd rv
  have e2 := zip_snd hlen
  have er : ∀ (h' : Heap), (∀ b o, s.heap.get? b = some o → h'.get? b = some o) → PySem.W.EachIs (fun v d => ∃ as, Reads h' v d as) its ((xs.zip ds).map (·.2)) := fun h' hk =>
    PySem.W.each_map (R := fun v d => ∃ as, Reads h' v d as) (fun b : V × PyData => b.2) (e.mono fun u b ⟨r1, r2⟩ => by
      obtain ⟨as, x⟩ := Dp.reads I b.2 b.1 u r2 r1
      exact ⟨as, PyProof.Rows.Reads.keeps (fun b o => hk b o) x⟩)
  have hk := er (PySem.W.sortingHeap (PySem.W.copyHeap s.heap its) (s.heap.objs.size + 1) its) fun b o q => PySem.W.sorting_copy_old q
  refine PySem.W.sorted_vals hl.isList (sortsAtAny (s := { s with heap := PySem.W.sortingHeap (PySem.W.copyHeap s.heap its) (s.heap.objs.size + 1) its }) hk (by rw [e2]; exact hal) (by rw [e2]; exact fun d m => (hn d m).1) (by
    rw [e2]
    intro d m
    have := (hn d m).2
    show X.A.units + 2 + d.depth < cLine
    omega)) (by rw [← rv.length]; exact hz) ?_
  have out := PySem.W.sortVals_data (R := fun u (b : V × PyData) => RelV b.1 u ∧ Dp X.K H b.1 b.2) (enc := fun b : V × PyData => b.2) false e (e.mono fun u b ⟨r1, r2⟩ => by
      obtain ⟨as, x⟩ := Dp.reads I b.2 b.1 u r2 r1
      exact ⟨as, PyProof.Rows.Reads.keeps (fun b o q => PySem.W.sorting_copy_old q) x⟩ : PySem.W.EachIs (fun v (b : V × PyData) => ∃ as, Reads (PySem.W.sortingHeap (PySem.W.copyHeap s.heap its) (s.heap.objs.size + 1) its) v b.2 as) its (xs.zip ds)) (by rw [e2]; exact hal)
  generalize PySem.W.sortVals (PySem.W.dataKind (PySem.W.sortingHeap (PySem.W.copyHeap s.heap its) (s.heap.objs.size + 1) its) ((xs.zip ds).map fun b => b.2)) false its its = ov at out ⊢
  have hv := each_vals (fun u b (h : RelV b.1 u ∧ Dp X.K H b.1 b.2) => h.1) out
  obtain ⟨ep, he'⟩ := PyProof.Rows.sortedAll_at s.heap its ov.toArray
  have hp := List.mergeSort_perm (xs.zip ds) (PySem.W.dataLe false fun b : V × PyData => b.2)
  refine ⟨.ref _, upd H (s.heap.objs.size + 1) (.lst (((xs.zip ds).mergeSort (PySem.W.dataLe false fun b => b.2)).map (·.1))), I.laid (t' := s.toks) (fun _ _ => PyProof.Rows.sortedAll_old) (Nat.le_succ _) ⟨?_, ov, ep, hv, he'⟩, rfl, q _ _ hp ?_ (I.hok.fresh (Nat.le_succ _))⟩
  · rw [List.length_map, hp.length_eq, List.length_zip]
    omega
  · have m := List.map_mergeSort (r := PySem.W.dataLe false fun b : V × PyData => b.2) (s := leD) (f := fun b : V × PyData => b.2) (l := xs.zip ds) (fun a _ b _ => rfl)
    rw [m, e2]
    rfl
theorem dqAll_zip {G : Hp} : ∀ {vs : List V} {ds : List PyData}, DqAll G vs ds → ∀ b, b ∈ vs.zip ds → Dq G b.1 b.2
  | _, _, .nil, b, h => by simp at h
  | _, _, .cons h t, b, m => by
    rw [List.zip_cons_cons] at m
    rcases List.mem_cons.mp m with rfl | m
    · exact h
    · exact dqAll_zip t b m
theorem dqAll_of {G : Hp} : ∀ {zs : List (V × PyData)}, (∀ b, b ∈ zs → Dq G b.1 b.2) → DqAll G (zs.map (·.1)) (zs.map (·.2))
  | [], _ => .nil
  | b :: zs, h => .cons (h b (List.mem_cons_self ..)) (dqAll_of fun c m => h c (List.mem_cons_of_mem _ m))
/-- what can be sorted -/
def SortOk (ds : List PyData) : Prop := PySem.W.AllAlike ds ∧ ∀ d, d ∈ ds → d ≠ .none ∧ d.depth ≤ 60 ∧ noDict d = true
theorem noDictL_of {ds : List PyData} (h : ∀ d, d ∈ ds → noDict d = true) : noDictL ds = true := by
  induction ds with
  | nil => rfl
  | cons d ds ih => rw [noDictL, h d (List.mem_cons_self ..), ih fun e m => h e (List.mem_cons_of_mem _ m)]; rfl
theorem RR_sorted {K : PySem.W.Frag} {ds : List PyData} (h : SortOk ds) : RR (rSortedD K) [.list ds] (.list (sortD ds)) := fun vs G H Q hs hd k => by
  obtain ⟨x, rfl, hx⟩ := hd.one
  cases hx with
  | lst ha hall =>
    refine ⟨_, _, ds, rfl, SqL.of (hs _ _ ha), DqAll.dp ds _ (hall.up hs) (noDictL_of fun d m => (h.2 d m).2.2), h.1, fun d m => ⟨(h.2 d m).1, (h.2 d m).2.1⟩, fun zs p hp e hn => ?_⟩
    refine k _ _ _ (.new hs hn) (.lst upd_same ?_)
    rw [← e]
    exact DqAll.up (dqAll_of fun b m => dqAll_zip hall b (hp.mem_iff.mp m)) (same_new (hs.free hn))
end PD
set_option Elab.async false
set_option linter.all false
set_option maxRecDepth 100000
set_option maxHeartbeats 4000000
/-! PdComp: what is walked, as data; list comprehensions that make new data -/
namespace PD
open PySem PySem.Spec PyProof.Rows L2 RZ
/-- J gives data that stand for ds, one a turn -/
structure DW (J : It) (G : Hp) (ds : List PyData) : Prop where
  w : Walk J ds.length (fun H => Same G H) (fun i H x H' => ∃ d, ds[i]? = some d ∧ Same H H' ∧ ∀ G1, Same G G1 → Same G1 H → ∃ G2, Ext G1 H G2 H' ∧ Dq G2 x d)
def WR (wi : TI) (σ : L2.St) (G : Hp) (ds : List PyData) : Prop := ∀ (H : Hp) (R : It → Hp → Prop), Same G H → (∀ J G' H', Ext G H G' H' → DW J G' ds → R J H') → wi σ H R
section
variable {K : PySem.W.Frag} {σ : L2.St} {G : Hp} {ds es : List PyData} {te ta tl : TE} {t : TA}
theorem DW_list {a : Addr} {xs : List V} (h : G a = some (.lst xs)) (hd : DqAll G xs ds) : DW (Itl K a) G ds := by
  refine ⟨?_⟩
  rw [← hd.len]
  refine walk_list.mono (fun H hs => SqL.of (hs _ _ h)) fun i H x H' hi hs y => ?_
  obtain ⟨rfl, e⟩ := y
  obtain ⟨d, e1, e2⟩ := hd.get e
  exact ⟨d, e1, Same.refl _, fun G1 g1 h1 => ⟨G1, .refl h1, e2.up g1⟩⟩
theorem DW_tup {a : Addr} {xs : List V} (h : G a = some (.tup xs)) (hd : DqAll G xs ds) : DW (Itt K a) G ds := by
  refine ⟨?_⟩
  rw [← hd.len]
  refine walk_tup.mono (fun H hs => SqT.of (hs _ _ h)) fun i H x H' hi hs y => ?_
  obtain ⟨rfl, e⟩ := y
  obtain ⟨d, e1, e2⟩ := hd.get e
  exact ⟨d, e1, Same.refl _, fun G1 g1 h1 => ⟨G1, .refl h1, e2.up g1⟩⟩
theorem WR_list (h : PR tl σ G (.list ds)) : WR (iList K tl) σ G ds := fun H R hs k => h H _ hs fun v G1 H1 e1 dv => by
  cases dv with
  | lst ha hd => exact ⟨_, rfl, ⟨_, SqL.of (e1.gh _ _ ha)⟩, k _ G1 H1 e1 (DW_list ha hd)⟩
theorem WR_tup (h : PR tl σ G (.tuple ds)) : WR (iTup K tl) σ G ds := fun H R hs k => h H _ hs fun v G1 H1 e1 dv => by
  cases dv with
  | tup ha hd => exact ⟨_, rfl, ⟨_, SqT.of (e1.gh _ _ ha)⟩, k _ G1 H1 e1 (DW_tup ha hd)⟩
/-- a list or a tuple -/
def iSeq (K : PySem.W.Frag) (tl : TE) : TI := fun σ H R => tl σ H fun x H1 => ∃ a, x = .ref a ∧ ((∃ xs, SqL K H1 a xs ∧ R (Itl K a) H1) ∨ ∃ xs, SqT K H1 a xs ∧ R (Itt K a) H1)
theorem pi_seq {X : Cx} {tg l : Expr} (hl : PE X l tl) : PI X tg l (iSeq X.K tl) := by
  refine ⟨fun pins s σ H R I h => thn (hl.run pins s σ H _ I h) fun v s1 ⟨x, H1, I1, r1, q1⟩ => ?_⟩
  obtain ⟨a, rfl, q⟩ := q1
  cases r1
  have ok : ∀ {it : Addr}, it = s1.heap.objs.size → ∀ b, b ∈ [it] → FpOk X pins H1 b := fun {it} e b hb => by
    have e2 : b = it := List.mem_singleton.mp hb
    rw [e2, e]
    exact I1.fpOk (Nat.le_refl _) I1.fresh
  have kp : ∀ (o : Obj), Inv X pins σ H1 { s1 with heap := s1.heap.push o } := fun o => I1.kept (t' := s1.toks) fun b u e => Heap.get?_push_of_some _ e
  rcases q with ⟨xs, hq, q⟩ | ⟨xs, hq, q⟩
  · obtain ⟨its, rv, p, hz⟩ := I1.list hq
    exact wpAny_pyIter_list p.isList ⟨_, _, _, _, H1, rfl, kp _, turn_list a _, ⟨_, Heap.get?_push_size _ rfl, rfl, rfl⟩, ok rfl, q⟩
  · obtain ⟨its, rv, p, hz⟩ := I1.tuple hq
    exact wpAny_pyIter_tuple (show s1.heap.IsTuple a its.toArray from p) ⟨_, _, _, _, H1, rfl, kp _, turn_tuple a _, ⟨_, Heap.get?_push_size _ rfl, rfl, rfl⟩, ok rfl, q⟩
theorem WR_seqL (h : PR tl σ G (.list ds)) : WR (iSeq K tl) σ G ds := fun H R hs k => h H _ hs fun v G1 H1 e1 dv => by
  cases dv with
  | lst ha hd => exact ⟨_, rfl, .inl ⟨_, SqL.of (e1.gh _ _ ha), k _ G1 H1 e1 (DW_list ha hd)⟩⟩
theorem WR_seqT (h : PR tl σ G (.tuple ds)) : WR (iSeq K tl) σ G ds := fun H R hs k => h H _ hs fun v G1 H1 e1 dv => by
  cases dv with
  | tup ha hd => exact ⟨_, rfl, .inr ⟨_, SqT.of (e1.gh _ _ ha), k _ G1 H1 e1 (DW_tup ha hd)⟩⟩
/-- pairs that are new each turn -/
theorem pairNew {H H' : Hp} {T : Addr} {x y : V} {d e : PyData} (hT : H T = none) (e1 : H' = upd H T (.tup [x, y])) {G1 : Hp} (h1 : Same G1 H) (hx : Dq G1 x d) (hy : Dq G1 y e) : ∃ G2, Ext G1 H G2 H' ∧ Dq G2 (.ref T) (.tuple [d, e]) := by
  subst e1
  have sg := same_new (o := .tup [x, y]) (h1.free hT)
  exact ⟨upd G1 T (.tup [x, y]), .new h1 hT, .tup upd_same (.cons (hx.up sg) (.cons (hy.up sg) .nil))⟩
def enumD : Nat → List PyData → List PyData
  | _, [] => []
  | k, d :: ds => .tuple [.int (k : Nat), d] :: enumD (k + 1) ds
theorem enumD_len : ∀ (k : Nat) (ds : List PyData), (enumD k ds).length = ds.length
  | _, [] => rfl
  | k, d :: ds => by simp [enumD, enumD_len (k + 1) ds]
theorem enumD_get : ∀ (k : Nat) (ds : List PyData) (i : Nat) (d : PyData), ds[i]? = some d → (enumD k ds)[i]? = some (.tuple [.int ((k + i : Nat) : Int), d])
  | _, [], i, d, h => by simp at h
  | k, x :: ds, 0, d, h => by simp at h; subst h; rfl
  | k, x :: ds, i + 1, d, h => by
    have q := enumD_get (k + 1) ds i d (by simpa using h)
    have e : k + 1 + i = k + (i + 1) := by omega
    rw [e] at q
    simpa [enumD] using q
theorem WR_enum (h : PRA t σ G [.list ds]) : WR (iEnum K t) σ G (enumD 0 ds) := fun H R hs k => h H _ hs fun vs G1 H1 e1 dv => by
  obtain ⟨x, rfl, hx⟩ := dv.one
  cases hx with
  | lst ha hd =>
    refine ⟨_, _, rfl, SqL.of (e1.gh _ _ ha), k _ G1 H1 e1 ⟨?_⟩⟩
    rw [enumD_len, ← hd.len]
    refine walk_enum.mono (fun H hs => SqL.of (hs _ _ ha)) fun i H x H' hi hs y => ?_
    obtain ⟨T, a, b, rfl, hT, e, ea, eb⟩ := y
    cases ea
    obtain ⟨d, q1, q2⟩ := hd.get eb
    refine ⟨_, by simpa using enumD_get 0 ds i d q1, by rw [e]; exact same_new hT, fun G2 g2 h2 => pairNew hT e h2 (.int _) (q2.up g2)⟩
def zipD (ds es : List PyData) : List PyData := List.zipWith (fun a b => .tuple [a, b]) ds es
theorem DW_zipL {a b : Addr} {xs ys : List V} (h : G a = some (.lst xs)) (hd : DqAll G xs ds) (h' : G b = some (.lst ys)) (he : DqAll G ys es) : DW (Itz K a b) G (zipD ds es) := by
  refine ⟨?_⟩
  have hl : (zipD ds es).length = min xs.length ys.length := by rw [zipD, List.length_zipWith, hd.len, he.len]
  refine (walk_zip hl).mono (fun H hs => ⟨SqL.of (hs _ _ h), SqL.of (hs _ _ h')⟩) fun i H x H' hi hs y => ?_
  obtain ⟨T, u, v, rfl, hT, e, eu, ev⟩ := y
  obtain ⟨d, q1, q2⟩ := hd.get eu
  obtain ⟨d', q3, q4⟩ := he.get ev
  exact ⟨.tuple [d, d'], by rw [zipD, List.getElem?_zipWith, q1, q3], by rw [e]; exact same_new hT, fun G2 g2 h2 => pairNew hT e h2 (q2.up g2) (q4.up g2)⟩
theorem DW_zipT {a b : Addr} {xs ys : List V} (h : G a = some (.tup xs)) (hd : DqAll G xs ds) (h' : G b = some (.tup ys)) (he : DqAll G ys es) : DW (ItzT K a b) G (zipD ds es) := by
  have hl : (zipD ds es).length = min xs.length ys.length := by rw [zipD, List.length_zipWith, hd.len, he.len]
  refine ⟨⟨fun i H hi hs => ?_, fun H hs => ⟨xs, ys, SqT.of (hs _ _ h), SqT.of (hs _ _ h'), by omega⟩, fun i H x H' hi hs y => ?_⟩⟩
  · exact ⟨xs, ys, xs[i]'(by omega), ys[i]'(by omega), SqT.of (hs _ _ h), SqT.of (hs _ _ h'), List.getElem?_eq_getElem (by omega), List.getElem?_eq_getElem (by omega)⟩
  · obtain ⟨T, u, v, rfl, hT, e, eu, ev⟩ := y
    obtain ⟨d, q1, q2⟩ := hd.get (eu xs (SqT.of (hs _ _ h)))
    obtain ⟨d', q3, q4⟩ := he.get (ev ys (SqT.of (hs _ _ h')))
    exact ⟨.tuple [d, d'], by rw [zipD, List.getElem?_zipWith, q1, q3], by rw [e]; exact same_new hT, fun G2 g2 h2 => pairNew hT e h2 (q2.up g2) (q4.up g2)⟩
theorem WR_zipL (h : PRA t σ G [.list ds, .list es]) : WR (iZipA K t) σ G (zipD ds es) := fun H R hs k => h H _ hs fun vs G1 H1 e1 dv => by
  obtain ⟨x, y, rfl, hx, hy⟩ := dv.two
  cases hx with
  | lst ha hd =>
    cases hy with
    | lst hb he => exact ⟨_, _, _, _, rfl, .inl ⟨SqL.of (e1.gh _ _ ha), SqL.of (e1.gh _ _ hb), k _ G1 H1 e1 (DW_zipL ha hd hb he)⟩⟩
theorem WR_zipT (h : PRA t σ G [.tuple ds, .tuple es]) : WR (iZipA K t) σ G (zipD ds es) := fun H R hs k => h H _ hs fun vs G1 H1 e1 dv => by
  obtain ⟨x, y, rfl, hx, hy⟩ := dv.two
  cases hx with
  | tup ha hd =>
    cases hy with
    | tup hb he => exact ⟨_, _, _, _, rfl, .inr ⟨SqT.of (e1.gh _ _ ha), SqT.of (e1.gh _ _ hb), k _ G1 H1 e1 (DW_zipT ha hd hb he)⟩⟩
theorem WR_range1 {n : Nat} (hn : n < 2 ^ 62) (h : PRA t σ G [.int n]) : WR (iRng1 t) σ G ((List.range n).map fun i => .int (i : Nat)) := fun H R hs k => h H _ hs fun vs G1 H1 e1 dv => by
  obtain ⟨x, rfl, hx⟩ := dv.one
  cases hx
  refine ⟨n, rfl, by omega, by omega, k _ G1 H1 e1 ⟨?_⟩⟩
  rw [List.length_map, List.length_range, Int.toNat_natCast]
  refine walk_range.mono (fun _ _ => trivial) fun i H x H' hi hs y => ?_
  obtain ⟨rfl, rfl⟩ := y
  refine ⟨.int (i : Nat), by simp [hi], Same.refl _, fun G2 g2 h2 => ⟨G2, .refl h2, ?_⟩⟩
  have e0 : (0 : Int) + (i : Int) = (i : Int) := Int.zero_add _
  show Dq G2 (.int (0 + (i : Int))) (.int (i : Nat))
  rw [e0]
  exact .int _
end

/-! ### comprehensions -/
section
variable {K : PySem.W.Frag} {σ : L2.St} {G : Hp} {wi : TI} {g : TG} {tt : TT} {te : TE} {vs : List Nat} {β : Type} {bs : List β} {enc f : β → PyData} {p : β → Bool}
theorem PR_lc {S : Hp → β → L2.St → Prop} (hw : WR wi σ G (bs.map enc))
    (hg : ∀ x b G1 H (k : L2.St → Hp → Prop), b ∈ bs → Dq G1 x (enc b) → Same G1 H → (∀ σ', wipe σ' vs = wipe σ vs → S G1 b σ' → k σ' H) → g x (wipe σ vs) H k)
    (hstep : ∀ G1 b σ', Same G G1 → b ∈ bs → S G1 b σ' → TR tt σ' G1 (p b) ∧ (p b = true → PR te σ' G1 (f b))) (hlen : bs.length ≤ sizeLine) :
    PR (tLc wi g tt te vs) σ G (.list ((bs.filter p).map f)) := fun H Q hs k => by
  refine hw H _ hs fun J G1 H1 e1 dw D hD => ?_
  have hz : (bs.map enc).length = bs.length := List.length_map _
  refine lc_it dw.w (fun i H2 => ∃ (G2 : Hp) (acc : List V), Same G1 G2 ∧ (∀ a, G2 a ≠ none → G1 a ≠ none ∨ H1 a = none) ∧ G2 D = none ∧ Same H1 H2 ∧ Same G2 H2 ∧ H2 D = some (.lst acc) ∧ acc.length ≤ i ∧ DqAll G2 acc (((bs.take i).filter p).map f)) ?_ ?_ ?_ ?_
  · exact ⟨G1, [], Same.refl _, fun _ h => .inl h, e1.gh.free hD, same_new hD, e1.gh.trans (same_new hD), upd_same, Nat.le_refl _, .nil⟩
  · rintro i H2 _ ⟨G2, acc, a1, a2, a3, a4, a5, a6, _⟩
    exact a1.trans a5
  · rintro i x H2 H3 hi ⟨G2, acc, a1, a2, a3, a4, a5, a6, a7, a8⟩ ⟨d, b1, b2, b3⟩
    obtain ⟨G3, e3, dx⟩ := b3 G2 a1 a5
    rw [List.getElem?_map] at b1
    obtain ⟨b, c1, rfl⟩ : ∃ b, bs[i]? = some b ∧ enc b = d := by
      cases q : bs[i]? with
      | none => rw [q] at b1; simp at b1
      | some b => rw [q] at b1; exact ⟨b, rfl, Option.some.inj b1⟩
    have hib : i < bs.length := (List.getElem?_eq_some_iff.mp c1).1
    have mem : b ∈ bs := List.mem_of_getElem? c1
    have etake : bs.take (i + 1) = bs.take i ++ [b] := by rw [List.take_add_one, c1]; rfl
    have g3D : G3 D = none := by
      cases q : G3 D with
      | none => rfl
      | some o =>
        rcases e3.fr D (by simp [q]) with z | z
        · exact absurd a3 z
        · rw [a6] at z; cases z
    have fr3 : ∀ a, G3 a ≠ none → G1 a ≠ none ∨ H1 a = none := fun a h => (e3.fr a h).elim (a2 a) fun z => .inr (a4.free z)
    refine hg x b G3 H3 _ mem dx e3.gh fun σ' hσ hS => ⟨hσ, ?_⟩
    obtain ⟨ht, he⟩ := hstep G3 b σ' ((e1.gg.trans a1).trans e3.gg) mem hS
    refine ht H3 _ e3.gh fun H4 s4 => ?_
    have d4 : H4 D = some (.lst acc) := s4 _ _ (e3.hh _ _ a6)
    cases hp : p b with
    | false =>
      refine iteF ⟨G3, acc, a1.trans e3.gg, fr3, g3D, (a4.trans e3.hh).trans s4, e3.gh.trans s4, d4, by omega, ?_⟩
      have : (bs.take (i + 1)).filter p = (bs.take i).filter p := by rw [etake, List.filter_append]; simp [hp]
      rw [this]
      exact a8.up e3.gg
    | true =>
      refine iteT ((he hp) H4 _ (e3.gh.trans s4) fun v G5 H5 e5 dv => ⟨acc, e5.hh _ _ d4, by omega, ?_⟩)
      have g5D : G5 D = none := by
        cases q : G5 D with
        | none => rfl
        | some o =>
          rcases e5.fr D (by simp [q]) with z | z
          · exact absurd g3D z
          · rw [d4] at z; cases z
      have sH : Same H1 H5 := ((a4.trans e3.hh).trans s4).trans e5.hh
      refine ⟨G5, acc ++ [v], (a1.trans e3.gg).trans e5.gg, fun a h => (e5.fr a h).elim (fr3 a) fun z => .inr (((a4.trans e3.hh).trans s4).free z), g5D, same_off sH hD, same_off e5.gh g5D, upd_same, by simp; omega, ?_⟩
      have : ((bs.take (i + 1)).filter p).map f = ((bs.take i).filter p).map f ++ [f b] := by rw [etake, List.filter_append]; simp [hp]
      rw [this]
      exact (a8.up (e3.gg.trans e5.gg)).snoc dv
  · rintro H2 ⟨G2, acc, a1, a2, a3, a4, a5, a6, a7, a8⟩
    rw [hz, List.take_length] at a8
    have hGD : G2 D = none := a3
    refine k (.ref D) (upd G2 D (.lst acc)) H2 ⟨e1.hh.trans a4, fun b o q => ?_, fun b o q => ?_, fun b q => ?_⟩ (.lst upd_same (a8.up (same_new hGD)))
    · rw [upd_ne (ne_of_none (a1 _ _ (e1.gg _ _ q)) hGD)]
      exact a1 _ _ (e1.gg _ _ q)
    · by_cases hb : b = D
      · subst hb
        rw [upd_same] at q
        rw [a6]
        exact q
      · rw [upd_ne hb] at q
        exact a5 _ _ q
    · by_cases hb : b = D
      · subst hb
        exact .inr (e1.hh.free hD)
      · rw [upd_ne hb] at q
        rcases a2 b q with z | z
        · exact e1.fr b z
        · exact .inr (e1.hh.free z)
/-- one name -/
theorem PR_lc1 {i : Nat} (hw : WR wi σ G (bs.map enc)) (hset : ∀ v, wipe ((wipe σ vs).set i (some v)) vs = wipe σ vs)
    (hstep : ∀ G1 b v, Same G G1 → b ∈ bs → Dq G1 v (enc b) → TR tt ((wipe σ vs).set i (some v)) G1 (p b) ∧ (p b = true → PR te ((wipe σ vs).set i (some v)) G1 (f b))) (hlen : bs.length ≤ sizeLine) :
    PR (tLc wi (gName i) tt te vs) σ G (.list ((bs.filter p).map f)) :=
  PR_lc (S := fun G1 b σ' => ∃ v, Dq G1 v (enc b) ∧ σ' = (wipe σ vs).set i (some v)) hw (fun x b G1 H k _ dx _ h => h _ (hset x) ⟨x, dx, rfl⟩)
    (fun G1 b σ' hG hb ⟨v, dv, e⟩ => e ▸ hstep G1 b v hG hb dv) hlen
/-- two names -/
theorem PR_lc2 {i j : Nat} {e1 e2 : β → PyData} (he : ∀ b, b ∈ bs → enc b = .tuple [e1 b, e2 b]) (hw : WR wi σ G (bs.map enc)) (hset : ∀ v u, wipe (((wipe σ vs).set i (some v)).set j (some u)) vs = wipe σ vs)
    (hstep : ∀ G1 b v u, Same G G1 → b ∈ bs → Dq G1 v (e1 b) → Dq G1 u (e2 b) → TR tt (((wipe σ vs).set i (some v)).set j (some u)) G1 (p b) ∧ (p b = true → PR te (((wipe σ vs).set i (some v)).set j (some u)) G1 (f b))) (hlen : bs.length ≤ sizeLine) :
    PR (tLc wi (gTup K 2 (gCons (gName i) (gCons (gName j) gNil))) tt te vs) σ G (.list ((bs.filter p).map f)) :=
  PR_lc (S := fun G1 b σ' => ∃ v u, Dq G1 v (e1 b) ∧ Dq G1 u (e2 b) ∧ σ' = ((wipe σ vs).set i (some v)).set j (some u)) hw (fun x b G1 H k hb dx hs h => by
      rw [he b hb] at dx
      cases dx with
      | tup ha hall =>
        obtain ⟨v, u, rfl, hv, hu⟩ := hall.two
        exact ⟨_, _, rfl, SqT.of (hs _ _ ha), rfl, v, [u], rfl, u, [], rfl, rfl, h _ (hset v u) ⟨v, u, hv, hu, rfl⟩⟩)
    (fun G1 b σ' hG hb ⟨v, u, dv, du, e⟩ => e ▸ hstep G1 b v u hG hb dv du) hlen
variable {q : β → Bool}
/-- without a test -/
theorem PR_map1 {i : Nat} (hw : WR wi σ G (bs.map enc)) (hset : ∀ v, wipe ((wipe σ vs).set i (some v)) vs = wipe σ vs)
    (hstep : ∀ G1 b v, Same G G1 → b ∈ bs → Dq G1 v (enc b) → PR te ((wipe σ vs).set i (some v)) G1 (f b)) (hlen : bs.length ≤ sizeLine) :
    PR (tLc wi (gName i) tYes te vs) σ G (.list (bs.map f)) :=
  (PR_lc1 (p := fun _ => true) hw hset (fun G1 b v hG hb dv => ⟨TR_yes, fun _ => hstep G1 b v hG hb dv⟩) hlen).eq (by rw [List.filter_eq_self.mpr fun _ _ => rfl])
theorem PR_map2 {i j : Nat} {e1 e2 : β → PyData} (he : ∀ b, b ∈ bs → enc b = .tuple [e1 b, e2 b]) (hw : WR wi σ G (bs.map enc)) (hset : ∀ v u, wipe (((wipe σ vs).set i (some v)).set j (some u)) vs = wipe σ vs)
    (hstep : ∀ G1 b v u, Same G G1 → b ∈ bs → Dq G1 v (e1 b) → Dq G1 u (e2 b) → PR te (((wipe σ vs).set i (some v)).set j (some u)) G1 (f b)) (hlen : bs.length ≤ sizeLine) :
    PR (tLc wi (gTup K 2 (gCons (gName i) (gCons (gName j) gNil))) tYes te vs) σ G (.list (bs.map f)) :=
  (PR_lc2 (p := fun _ => true) he hw hset (fun G1 b v u hG hb dv du => ⟨TR_yes, fun _ => hstep G1 b v u hG hb dv du⟩) hlen).eq (by rw [List.filter_eq_self.mpr fun _ _ => rfl])
theorem all_map (bs : List β) (q : β → Bool) : (bs.map q).all id = bs.all q := by rw [List.all_map]; rfl
theorem any_map (bs : List β) (q : β → Bool) : (bs.map q).any id = bs.any q := by rw [List.any_map]; rfl
theorem PR_all {te : TE} (h : PR te σ G (.list (bs.map fun b => .bool (q b)))) : PR (tCB (rAll K) (tCons te tNil)) σ G (.bool (bs.all q)) := by
  have e : (bs.map fun b => PyData.bool (q b)) = (bs.map q).map PyData.bool := by rw [List.map_map]; rfl
  rw [e] at h
  rw [← all_map]
  exact PR_CB RR_all (PRA_one h)
theorem PR_any {te : TE} (h : PR te σ G (.list (bs.map fun b => .bool (q b)))) : PR (tCB (rAny K) (tCons te tNil)) σ G (.bool (bs.any q)) := by
  have e : (bs.map fun b => PyData.bool (q b)) = (bs.map q).map PyData.bool := by rw [List.map_map]; rfl
  rw [e] at h
  rw [← any_map]
  exact PR_CB RR_any (PRA_one h)
end
/-! ### how great data are -/
def Sh (n : Nat) (d : PyData) : Prop := d.canLay0 = true ∧ d.depth ≤ n
def ShL (n : Nat) (ds : List PyData) : Prop := ∀ d, d ∈ ds → Sh n d
theorem Sh.shaped {n : Nat} {d : PyData} (h : Sh n d) (hn : n ≤ 64) : SeqAt.shaped d = true := by
  show (d.canLay0 && decide (d.depth ≤ 64)) = true
  rw [h.1, Bool.true_and]
  exact decide_eq_true (Nat.le_trans h.2 hn)
theorem Sh.mono {n m : Nat} {d : PyData} (h : Sh n d) (hn : n ≤ m) : Sh m d := ⟨h.1, Nat.le_trans h.2 hn⟩
theorem ShL.mono {n m : Nat} {ds : List PyData} (h : ShL n ds) (hn : n ≤ m) : ShL m ds := fun d hd => (h d hd).mono hn
theorem ShL.lay {n : Nat} : ∀ {ds : List PyData}, ShL n ds → PyData.canLayAll0 ds = true ∧ PyData.depthAll ds ≤ n
  | [], _ => ⟨rfl, by simp [PyData.depthAll]⟩
  | d :: ds, h => by
    obtain ⟨h1, h2⟩ := h d (List.mem_cons_self ..)
    obtain ⟨h3, h4⟩ := ShL.lay (ds := ds) fun e m => h e (List.mem_cons_of_mem _ m)
    simp only [PyData.canLayAll0, PyData.depthAll, h1, h3, Bool.true_and, true_and]
    omega
theorem ShL.list {n : Nat} {ds : List PyData} (h : ShL n ds) : Sh (n + 1) (.list ds) := ⟨by simp only [PyData.canLay0]; exact h.lay.1, by simp only [PyData.depth]; have := h.lay.2; omega⟩
theorem ShL.tuple {n : Nat} {ds : List PyData} (h : ShL n ds) : Sh (n + 1) (.tuple ds) := ⟨by simp only [PyData.canLay0]; exact h.lay.1, by simp only [PyData.depth]; have := h.lay.2; omega⟩
theorem Sh.noDict {n : Nat} {d : PyData} (h : Sh n d) : PD.noDict d = true := noDict_of_lay d h.1
end PD
set_option Elab.async false
set_option linter.all false
set_option maxRecDepth 100000
set_option maxHeartbeats 4000000
/-! PdFn: defs by their promises; what isinstance tells -/
namespace PD
open PySem PySem.Spec PyProof.Rows L2
/-- a def of the top, as one calls it: its promise sp -/
structure Fn (P : Program) (w : World) (K : PySem.W.Frag) (mg : Str → Option Value) (base : Heap) (CX : CXT) (x : Str) (k : Nat) (n : Nat) (sp : Sp) : Prop where
  ex : ∃ (f : Addr) (fd : FuncData) (ps : List Str), mg x = some (.ref f) ∧ PySem.W.keepIn K (.ref f) = true ∧ ps.length = n ∧ Binds K fd ps [] ∧ FnOk P w K mg base CX k f fd ps sp
/-- a def of the top, as the text has it -/
structure Df (K : PySem.W.Frag) (mg : Str → Option Value) (x : Str) (st : Stmt) : Prop where
  ex : ∃ (f : Addr) (fd : FuncData), mg x = some (.ref f) ∧ Fun K x x st f fd
section
variable {P : Program} {w : World} {K : PySem.W.Frag} {mg : Str → Option Value} {base : Heap} {X : Cx} {CX : CXT} {x : Str} {k n : Nat} {sp : Sp} {E : XK} {e : Expr} {es : List Expr} {t : TA} {p pos : Pos} {st : Stmt}
theorem pe_fn (F : Fn X.prog X.w X.K X.mg X.base CX x k n sp) (hr : Room k X.A) (hg : Gl X x) (hx : Passes CX X E) (ha : PA X (e :: es) t) (hdb : (x == ("__debug__" : Str)) = false := by decide)
    (he : starEach (e :: es) X.env = (false, eval e X.env) :: starEach es X.env := by rfl) (hpl : (backTo pos (starEach es X.env)).any (·.1) = false := by rfl) : PE X (.Call (.Name x p) (e :: es) [] pos) (tCall sp [] E t) := by
  obtain ⟨f, fd, ps, h1, h2, _, h3, h4⟩ := F.ex
  exact pe_call h4 hr hg h1 h2 h3 .nil hx ha hdb he hpl
theorem Df.fn {N ps : List Str} (D : Df K mg x st) (S : FnScope N ps (defScope st)) (len : ∀ vs H Q E, sp vs H Q E → vs.length = ps.length) (hn : ps.length = n)
    (hb : ∀ (kV doc pm : Value) (an : Option Addr) (cdv ct : Value) (us : List Value), us.length = ps.length → bindArgs (PySem.W.fnOf x x (defArgs st) (defBody st) (defScope st) .none kV doc pm an cdv ct) ⟨us, []⟩ = pure (ps.zip us))
    (hbody : ∀ (f : Addr) (cdv : Value) (A : Around) (outer : List Env) (s : Shared) (H : Hp) (vs : List V) (Q : VK) (E : XK), Room k (A.deeper (envOfC x (defScope st) s.heap.objs.size f cdv)) → sp vs H Q E →
      ∃ t, PSs (cxOf CX0 P w K mg base N x (defScope st) f cdv A outer s H E).nox (defBody st) t ∧ t { nx := fun _ H' => Q .non H', rt := Q } (start N vs) H) : Fn P w K mg base CX0 x (k + 1) n sp := by
  obtain ⟨f, fd, h1, h2⟩ := D.ex
  exact ⟨f, fd, ps, h1, h2.kp, hn, h2.binds hb, h2.ok S len (hbody f)⟩
/-- a pure def by its body -/
theorem Df.pure {N ps : List Str} {DD : List PyData → PyData → Prop} (D : Df K mg x st) (S : FnScope N ps (defScope st)) (len : ∀ ds d, DD ds d → ds.length = ps.length) (hn : ps.length = n)
    (hb : ∀ (kV doc pm : Value) (an : Option Addr) (cdv ct : Value) (us : List Value), us.length = ps.length → bindArgs (PySem.W.fnOf x x (defArgs st) (defBody st) (defScope st) .none kV doc pm an cdv ct) ⟨us, []⟩ = pure (ps.zip us))
    (hbody : ∀ (f : Addr) (cdv : Value) (A : Around) (outer : List Env) (s : Shared) (H : Hp) (E : XK) (G : Hp) (vs : List V) (ds : List PyData) (d : PyData) (Q : VK), Room k (A.deeper (envOfC x (defScope st) s.heap.objs.size f cdv)) → Same G H → DqAll G vs ds → DD ds d →
      (∀ v G' H', Ext G H G' H' → Dq G' v d → Q v H') →
      ∃ t, PSs (cxOf CX0 P w K mg base N x (defScope st) f cdv A outer s H E).nox (defBody st) t ∧ t { nx := fun _ H' => Q .non H', rt := Q } (start N vs) H) : Fn P w K mg base CX0 x (k + 1) n (spP DD) :=
  D.fn S (fun vs H Q E ⟨G, ds, d, _, h1, h2, _⟩ => h1.len.trans (len ds d h2)) hn hb fun f cdv A outer s H vs Q E hr ⟨G, ds, d, h1, h2, h3, h4⟩ => hbody f cdv A outer s H E G vs ds d Q hr h1 h2 h3 h4
end
end PD


namespace PD
open PySem PySem.Spec PyProof.Rows L2
def isL : PyData → Bool
  | .list _ => true
  | _ => false
def isT : PyData → Bool
  | .tuple _ => true
  | _ => false
def isS : PyData → Bool
  | .str _ => true
  | _ => false
def isB : PyData → Bool
  | .bool _ => true
  | _ => false
def isD : PyData → Bool
  | .dict _ => true
  | _ => false
def isI : PyData → Bool
  | .int _ => true
  | .bool _ => true
  | _ => false
theorem _root_.L2.Room.u65 {k : Nat} {A : Around} (r : Room k A) : A.units + 65 < cLine := by have := r.un; omega
theorem kitL (d : PyData) : kitB (tyOf d) "list" = some (isL d) := by cases d <;> (simp only [tyOf, isL]; decide +kernel)
theorem kitT (d : PyData) : kitB (tyOf d) "tuple" = some (isT d) := by cases d <;> (simp only [tyOf, isT]; decide +kernel)
theorem kitS (d : PyData) : kitB (tyOf d) "str" = some (isS d) := by cases d <;> (simp only [tyOf, isS]; decide +kernel)
theorem kitBo (d : PyData) : kitB (tyOf d) "bool" = some (isB d) := by cases d <;> (simp only [tyOf, isB]; decide +kernel)
theorem kitD (d : PyData) : kitB (tyOf d) "dict" = some (isD d) := by cases d <;> (simp only [tyOf, isD]; decide +kernel)
theorem kitI (d : PyData) : kitB (tyOf d) "int" = some (isI d) := by cases d <;> (simp only [tyOf, isI]; decide +kernel)
end PD
set_option Elab.async false
set_option linter.all false
set_option maxRecDepth 100000
set_option maxHeartbeats 4000000
/-! PdX: the layer's terms in short, the written part K named -/
namespace PD
open PySem PySem.Spec PyProof.Rows L2 StX RZ
section
variable {X : Cx} {K : PySem.W.Frag} {a b e : Expr} {ta tb te : TE} {p q pos p2 p3 p4 : Pos} {es : List Expr} {t : TA}
theorem xe_in (hu : X.A.units + 65 < cLine) (ha : PE X a ta) (hb : PE X b tb) (hK : X.K = K := by rfl) (hm : behindInMarks .In b = false := by rfl) : PE X (.Compare a [.In] [b] pos) (tOp (rInD K) ta tb) := hK ▸ pe_cmpR (op_inD hu) ha hb hm
theorem xt_in (hu : X.A.units + 65 < cLine) (ha : PE X a ta) (hb : PE X b tb) (hK : X.K = K := by rfl) (hm : behindInMarks .In b = false := by rfl) : PT X (.Compare a [.In] [b] pos) (tTest (tOp (rInD K) ta tb)) := hK ▸ pt_cmpR (op_inD hu) ha hb hm
theorem xe_notin (hu : X.A.units + 65 < cLine) (ha : PE X a ta) (hb : PE X b tb) (hK : X.K = K := by rfl) (hm : behindInMarks .NotIn b = false := by rfl) : PE X (.Compare a [.NotIn] [b] pos) (tOp (rNotInD K) ta tb) := hK ▸ pe_cmpR (op_notInD hu) ha hb hm
theorem xt_notin (hu : X.A.units + 65 < cLine) (ha : PE X a ta) (hb : PE X b tb) (hK : X.K = K := by rfl) (hm : behindInMarks .NotIn b = false := by rfl) : PT X (.Compare a [.NotIn] [b] pos) (tTest (tOp (rNotInD K) ta tb)) := hK ▸ pt_cmpR (op_notInD hu) ha hb hm
theorem xe_eq (hu : X.A.units + 65 < cLine) (ha : PE X a ta) (hb : PE X b tb) (hK : X.K = K := by rfl) : PE X (.Compare a [.Eq] [b] pos) (tOp (rEqD K) ta tb) := hK ▸ pe_cmpR (op_eqD (by omega)) ha hb (nomark _)
theorem xt_eq (hu : X.A.units + 65 < cLine) (ha : PE X a ta) (hb : PE X b tb) (hK : X.K = K := by rfl) : PT X (.Compare a [.Eq] [b] pos) (tTest (tOp (rEqD K) ta tb)) := hK ▸ pt_cmpR (op_eqD (by omega)) ha hb (nomark _)
theorem xe_ne (hu : X.A.units + 65 < cLine) (ha : PE X a ta) (hb : PE X b tb) (hK : X.K = K := by rfl) : PE X (.Compare a [.NotEq] [b] pos) (tOp (rNeD K) ta tb) := hK ▸ pe_cmpR (op_neD (by omega)) ha hb (nomark _)
theorem xt_ne (hu : X.A.units + 65 < cLine) (ha : PE X a ta) (hb : PE X b tb) (hK : X.K = K := by rfl) : PT X (.Compare a [.NotEq] [b] pos) (tTest (tOp (rNeD K) ta tb)) := hK ▸ pt_cmpR (op_neD (by omega)) ha hb (nomark _)
theorem xe_slTo (ha : PE X a ta) (hb : PE X b tb) (hK : X.K = K := by rfl) : PE X (.Subscript a (.Slice none (some b) none p2) pos) (tSl (rSlL K) ta tNoPart (tPart tb)) := hK ▸ pe_slice sl_list ha po_none (po_some hb)
theorem xe_ixL (ha : PE X a ta) (hb : PE X b tb) (hs : PlainIx b := by exact fun _ _ => rfl) (hK : X.K = K := by rfl) : PE X (.Subscript a b pos) (tOp (rIxL K) ta tb) := hK ▸ pe_ix ix_list ha hb hs
theorem xe_ixT (ha : PE X a ta) (hb : PE X b tb) (hs : PlainIx b := by exact fun _ _ => rfl) (hK : X.K = K := by rfl) : PE X (.Subscript a b pos) (tOp (rIxT K) ta tb) := hK ▸ pe_ix ix_tup ha hb hs
theorem xe_all (m : X.mg "all" = none) (ha : PE X e te) (hg : Gl X "all" := by rfl) (hc : X.calm = true := by rfl) (hK : X.K = K := by rfl) (hs : starEach [e] X.env = (false, eval e X.env) :: starEach [] X.env := by rfl) : PE X (.Call (.Name "all" p) [e] [] pos) (tCB (rAll K) (tCons te tNil)) :=
  hK ▸ pe_callB (cr_all hc) hg m (by decide +kernel) (pa_cons ha pa_nil hs) (he := hs)
theorem xe_any (m : X.mg "any" = none) (ha : PE X e te) (hg : Gl X "any" := by rfl) (hc : X.calm = true := by rfl) (hK : X.K = K := by rfl) (hs : starEach [e] X.env = (false, eval e X.env) :: starEach [] X.env := by rfl) : PE X (.Call (.Name "any" p) [e] [] pos) (tCB (rAny K) (tCons te tNil)) :=
  hK ▸ pe_callB (cr_any hc) hg m (by decide +kernel) (pa_cons ha pa_nil hs) (he := hs)
abbrev rLenQ (K : PySem.W.Frag) : List V → Hp → VK → Prop := fun xs H Q => ∃ p ys, xs = [.ref p] ∧ (SqL K H p ys ∨ SqT K H p ys) ∧ Q (.int ys.length) H
abbrev rListQ (K : PySem.W.Frag) : List V → Hp → VK → Prop := fun xs H Q => ∃ p ys, xs = [.ref p] ∧ (SqL K H p ys ∨ SqT K H p ys) ∧ ∀ l, H l = none → Q (.ref l) (upd H l (.lst ys))
abbrev rTupleQ (K : PySem.W.Frag) : List V → Hp → VK → Prop := fun xs H Q => ∃ p ys, xs = [.ref p] ∧ ((SqL K H p ys ∧ ∀ l, H l = none → Q (.ref l) (upd H l (.tup ys))) ∨ (SqT K H p ys ∧ Q (.ref p) H))
theorem xi_list {tg : Expr} (hl : PE X e te) (hK : X.K = K := by rfl) : PI X tg e (iList K te) := hK ▸ pi_list hl
theorem xi_tup {tg : Expr} (hl : PE X e te) (hK : X.K = K := by rfl) : PI X tg e (iTup K te) := hK ▸ pi_tup hl
theorem xi_seq {tg : Expr} (hl : PE X e te) (hK : X.K = K := by rfl) : PI X tg e (iSeq K te) := hK ▸ pi_seq hl
theorem xa_star (he : PE X e te) (hr : PA X es t) (hK : X.K = K := by rfl) (hs : starEach (.Starred e p :: es) X.env = (true, eval e X.env) :: starEach es X.env := by rfl) : PA X (.Starred e p :: es) (tStar K te t) := hK ▸ pa_star he hr hs
theorem xe_len (m : X.mg "len" = none) (ha : PE X e te) (hg : Gl X "len" := by rfl) (hK : X.K = K := by rfl) (hs : starEach [e] X.env = (false, eval e X.env) :: starEach [] X.env := by rfl) : PE X (.Call (.Name "len" p) [e] [] pos) (tCB (rLenQ K) (tCons te tNil)) :=
  hK ▸ pe_callB call_len_seq hg m (by decide +kernel) (pa_cons ha pa_nil hs) (he := hs)
theorem xe_list (m : X.mg "list" = none) (ha : PE X e te) (hg : Gl X "list" := by rfl) (hK : X.K = K := by rfl) (hs : starEach [e] X.env = (false, eval e X.env) :: starEach [] X.env := by rfl) : PE X (.Call (.Name "list" p) [e] [] pos) (tCB (rListQ K) (tCons te tNil)) :=
  hK ▸ pe_callTy call_list_of hg m (by decide +kernel) (pa_cons ha pa_nil hs) (he := hs)
theorem xe_tuple (m : X.mg "tuple" = none) (ha : PE X e te) (hg : Gl X "tuple" := by rfl) (hK : X.K = K := by rfl) (hs : starEach [e] X.env = (false, eval e X.env) :: starEach [] X.env := by rfl) : PE X (.Call (.Name "tuple" p) [e] [] pos) (tCB (rTupleQ K) (tCons te tNil)) :=
  hK ▸ pe_callTy call_tuple_of hg m (by decide +kernel) (pa_cons ha pa_nil hs) (he := hs)
theorem xe_sorted (m : X.mg "sorted" = none) (hu : X.A.units + 65 < cLine) (ha : PE X e te) (hg : Gl X "sorted" := by rfl) (hK : X.K = K := by rfl) (hs : starEach [e] X.env = (false, eval e X.env) :: starEach [] X.env := by rfl) : PE X (.Call (.Name "sorted" p) [e] [] pos) (tCB (rSortedD K) (tCons te tNil)) :=
  hK ▸ pe_callB (cr_sortedD (by omega)) hg m (by decide +kernel) (pa_cons ha pa_nil hs) (he := hs)
theorem xe_isi {T : Str} {U : String} (m : X.mg "isinstance" = none) (mT : X.mg T = none) (hv : bootBuiltins T = some (.type U)) (ha : PE X e te) (hg : Gl X "isinstance" := by rfl) (hT : Gl X T := by rfl) (hK : X.K = K := by rfl) (hn : T ≠ "__name__" := by decide) (hd : (T == ("__debug__" : Str)) = false := by decide)
    (hs : starEach [e, .Name T q] X.env = (false, eval e X.env) :: starEach [.Name T q] X.env := by rfl) (hs2 : starEach [.Name T q] X.env = (false, eval (.Name T q) X.env) :: starEach [] X.env := by rfl)
    (hpl : (backTo pos (starEach [.Name T q] X.env)).any (·.1) = false := by rfl) :
    PE X (.Call (.Name "isinstance" p) [e, .Name T q] [] pos) (tCB (rIsi K) (tCons te (tCons (tC (.ty U)) tNil))) :=
  hK ▸ pe_callB (call_isi (X := X)) hg m (by decide +kernel) (pa_cons ha (pa_cons (pe_bltn (v := .ty U) hT mT hv rfl hn hd) pa_nil hs2) hs) (he := hs) (hpl := hpl)
theorem xe_isi2 {T T' : Str} {U U' : String} {k : Nat} (m : X.mg "isinstance" = none) (mT : X.mg T = none) (mT' : X.mg T' = none) (hv : bootBuiltins T = some (.type U)) (hv' : bootBuiltins T' = some (.type U')) (ha : PE X e te) (hg : Gl X "isinstance" := by rfl) (hT : Gl X T := by rfl) (hT' : Gl X T' := by rfl)
    (hK : X.K = K := by rfl) (hn : T ≠ "__name__" := by decide) (hd : (T == ("__debug__" : Str)) = false := by decide) (hn' : T' ≠ "__name__" := by decide) (hd' : (T' == ("__debug__" : Str)) = false := by decide)
    (hs : starEach [e, .Tuple [.Name T p2, .Name T' p3] k p4] X.env = (false, eval e X.env) :: starEach [.Tuple [.Name T p2, .Name T' p3] k p4] X.env := by rfl)
    (hs2 : starEach [.Tuple [.Name T p2, .Name T' p3] k p4] X.env = (false, eval (.Tuple [.Name T p2, .Name T' p3] k p4) X.env) :: starEach [] X.env := by rfl)
    (hs3 : starEach [.Name T p2, .Name T' p3] X.env = (false, eval (.Name T p2) X.env) :: starEach [.Name T' p3] X.env := by rfl) (hs4 : starEach [.Name T' p3] X.env = (false, eval (.Name T' p3) X.env) :: starEach [] X.env := by rfl)
    (hpl : (backTo pos (starEach [.Tuple [.Name T p2, .Name T' p3] k p4] X.env)).any (·.1) = false := by rfl) :
    PE X (.Call (.Name "isinstance" p) [e, .Tuple [.Name T p2, .Name T' p3] k p4] [] pos) (tCB (rIsiT K) (tCons te (tCons (tTup (tCons (tC (.ty U)) (tCons (tC (.ty U')) tNil))) tNil))) :=
  hK ▸ pe_callB (call_isiT (X := X)) hg m (by decide +kernel) (pa_cons ha (pa_cons (pe_tup (pa_cons (pe_bltn (v := .ty U) hT mT hv rfl hn hd) (pa_cons (pe_bltn (v := .ty U') hT' mT' hv' rfl hn' hd') pa_nil hs4) hs3)) pa_nil hs2) hs) (he := hs) (hpl := hpl)
end
section
variable {X : Cx} {K : PySem.W.Frag} {elt iter : Expr} {ifs : List Expr} {scope sc : Scope} {N : List Str} {i j : Nat} {x y : Str} {pos p1 p2 p3 : Pos} {k : Nat} {wi : TI} {tt : TT} {te : TE}
/-- [elt for x in iter ..] -/
theorem xe_lc1 (N : List Str) (sc : Scope) (i : Nat) (hi : PI X (.Name x p1) iter wi) (ok : blkC N sc scope [(x, i)] = true) (nd : N.Nodup)
    (hx : scope.names.lookup x = some .cell ∨ scope.names.lookup x = some .local) (ht : ∀ (s : Shared) (H : Hp) (C : Addr) (cl : List (Str × Addr)) (fp : List Addr), PTs (X.blk s H scope (compEnvC scope cl C X.env) fp) ifs tt)
    (he : ∀ (s : Shared) (H : Hp) (C : Addr) (cl : List (Str × Addr)) (fp : List Addr), PE (X.blk s H scope (compEnvC scope cl C X.env) fp) elt te) (hc : X.calm = true := by rfl) (hN : X.N = N := by rfl) (hS : X.env.scope = sc := by rfl)
    (hs : ∀ z, foldedSetIterable iter X.env z = pure z := by intro _; rfl) : PE X (.ListComp elt [⟨.Name x p1, iter, ifs, 0⟩] scope pos) (tLc wi (gName i) tt te [i]) := by
  have ok' := blkOk_by ok
  subst hN hS
  refine pe_lc (own := [(x, i)]) hc nd hi ok' (fun s H C cl fp => ?_) ht he hs
  rcases hx with h | h
  · have h2 : (X.blk s H scope (compEnvC scope cl C X.env) fp).env.scope.names.lookup x = some .cell := lookup_relS_keep (sc := X.env.scope) (by decide) h
    exact pg_name nd (ok'.ix (x, i) (List.mem_cons_self ..)) (.inr h2) (.inl (show (scope.names.lookup x == some .cell) = true by rw [h]; exact beq_self_eq_true _))
  · have h2 : (X.blk s H scope (compEnvC scope cl C X.env) fp).env.scope.names.lookup x = some .local := lookup_relS_keep (sc := X.env.scope) (by decide) h
    exact pg_name nd (ok'.ix (x, i) (List.mem_cons_self ..)) (.inl h2) (.inr h2)
/-- y = [elt for x in iter ..] -/
theorem xs_setLc1 {spos : Pos} (N : List Str) (sc : Scope) (j i : Nat) (hi : PI X (.Name x p1) iter wi) (ok : blkC N sc scope [(x, i)] = true) (nd : N.Nodup)
    (hx : scope.names.lookup x = some .cell ∨ scope.names.lookup x = some .local) (ht : ∀ (s : Shared) (H : Hp) (C : Addr) (cl : List (Str × Addr)) (fp : List Addr), PTs (X.blk s H scope (compEnvC scope cl C X.env) fp) ifs tt)
    (he : ∀ (s : Shared) (H : Hp) (C : Addr) (cl : List (Str × Addr)) (fp : List Addr), PE (X.blk s H scope (compEnvC scope cl C X.env) fp) elt te) (hy : N[j]? = some y) (hyl : sc.names.lookup y = some .local) (hl : (p2.line == pos.line) = true)
    (ha : (scope.names.any fun (n, k) => n == y && (k == .local || k == .cell)) = false) (hc : X.calm = true := by rfl) (hN : X.N = N := by rfl) (hS : X.env.scope = sc := by rfl) (hk : sc.kind = .function := by rfl)
    (hs : ∀ z, foldedSetIterable iter X.env z = pure z := by intro _; rfl) : PS X (.Assign [.Name y p2] (.ListComp elt [⟨.Name x p1, iter, ifs, 0⟩] scope pos) spos) (tAsg (tLc wi (gName i) tt te [i]) (gName j)) := by
  have ok' := blkOk_by ok
  subst hN hS
  refine ps_setLc (own := [(x, i)]) hc nd hy hyl (sw_true hk hyl hl ha) hi ok' (fun s H C cl fp => ?_) ht he hs
  rcases hx with h | h
  · have h2 : (X.blk s H scope (compEnvC scope cl C X.env) fp).env.scope.names.lookup x = some .cell := lookup_relS_keep (sc := X.env.scope) (by decide) h
    exact pg_name nd (ok'.ix (x, i) (List.mem_cons_self ..)) (.inr h2) (.inl (show (scope.names.lookup x == some .cell) = true by rw [h]; exact beq_self_eq_true _))
  · have h2 : (X.blk s H scope (compEnvC scope cl C X.env) fp).env.scope.names.lookup x = some .local := lookup_relS_keep (sc := X.env.scope) (by decide) h
    exact pg_name nd (ok'.ix (x, i) (List.mem_cons_self ..)) (.inl h2) (.inr h2)
end
/-! ### places in a text -/
def stAt (b : List Stmt) (i : Nat) : Stmt := b.getD i (.Pass ⟨0, 0, 0, 0⟩)
def noExpr : Expr := .Constant .none 0 ⟨0, 0, 0, 0⟩
/-- the value of an assignment, a return; what a for walks; the arguments of a call, the items of a list .. -/
def valOf : Stmt → Expr
  | .Assign _ e _ => e
  | .Return (some e) _ => e
  | .For _ e _ _ _ => e
  | .Expr e _ => e
  | .If e _ _ _ => e
  | _ => noExpr
def subE : Nat → Expr → Expr
  | i, .Call f as _ _ => (f :: as).getD i noExpr
  | i, .List es _ => es.getD i noExpr
  | i, .Tuple es _ _ => es.getD i noExpr
  | i, .IfExp a b c _ => [a, b, c].getD i noExpr
  | i, .BoolOp _ es _ => es.getD i noExpr
  | _, .UnaryOp _ e _ => e
  | i, .BinOp a _ b _ => [a, b].getD i noExpr
  | i, .Compare a _ bs _ => (a :: bs).getD i noExpr
  | 0, .ListComp e _ _ _ => e
  | i, .ListComp _ gs _ _ => (gs.map fun g => g.iter).getD (i - 1) noExpr
  | _, _ => noExpr
def compSc : Expr → Scope
  | .ListComp _ _ sc _ => sc
  | .Lambda _ _ sc _ => sc
  | _ => { kind := .function, names := [], isGenerator := false, isCoroutine := false }
def bodyOf : Stmt → List Stmt
  | .For _ _ b _ _ => b
  | .While _ b _ _ => b
  | .If _ b _ _ => b
  | _ => []
end PD
set_option Elab.async false
set_option linter.all false
set_option maxRecDepth 100000
set_option maxHeartbeats 4000000
/-! PdKey: sorted(xs, key=len) of lists -/
namespace PD
open PySem PySem.Spec PyProof.Rows L2
def sortLen {α : Type} (ls : List (List α)) : List (List α) := ls.mergeSort fun a b => decide (a.length ≤ b.length)
/-- the items of a list of lists -/
inductive Lsts (H : Hp) : List V → List (List V) → Prop
  | nil : Lsts H [] []
  | cons {b : Addr} {ys : List V} {vs : List V} {yss : List (List V)} : H b = some (.lst ys) → Lsts H vs yss → Lsts H (.ref b :: vs) (ys :: yss)
theorem Lsts.len {H : Hp} : ∀ {vs : List V} {yss : List (List V)}, Lsts H vs yss → vs.length = yss.length
  | _, _, .nil => rfl
  | _, _, .cons _ t => by simp [Lsts.len t]
theorem Lsts.each {H : Hp} : ∀ {vs : List V} {yss : List (List V)} {us : List Value}, Lsts H vs yss → Vals vs us →
    PySem.W.EachIs (fun u (b : V × List V) => RelV b.1 u ∧ ∃ c, b.1 = .ref c ∧ H c = some (.lst b.2)) us (vs.zip yss)
  | _, _, _, .nil, .nil => .nil
  | _, _, _, .cons h t, .cons r q => .cons ⟨r, _, rfl, h⟩ (Lsts.each t q)
def rSortLen (K : PySem.W.Frag) : List V → Hp → VK → Prop := fun vs H Q => ∃ (a : Addr) (xs : List V) (yss : List (List V)), vs = [.ref a] ∧ SqL K H a xs ∧ Lsts H xs yss ∧
  ∀ p, H p = none → Q (.ref p) (upd H p (.lst (((xs.zip yss).mergeSort fun b c => decide ((b.2.length : Int) ≤ c.2.length)).map (·.1))))
section
variable {X : Cx} {e : Expr} {te : TE} {p q pos kp : Pos} {K : PySem.W.Frag}
theorem len_run {pins : List (Addr × Obj)} {s : Shared} {σ : L2.St} {H : Hp} {a : Addr} {xs : List V} {yss : List (List V)} {Q : VK} (hu : X.A.units + 64 < cLine) (I : Inv X pins σ H s) (hs : SqL X.K H a xs) (hl : Lsts H xs yss)
    (h : ∀ p, H p = none → Q (.ref p) (upd H p (.lst (((xs.zip yss).mergeSort fun b c => decide ((b.2.length : Int) ≤ c.2.length)).map (·.1))))) :
    wpAny (model X.prog X.w) X.A (call (.builtin "sorted") [.ref a] [(Str.ofString "key", .builtin "len")]) (EP X pins σ Q) X.xe s := by
  obtain ⟨its, rv, pl, hz⟩ := I.list hs
  have e := hl.each rv
  have hlen := hl.len
  have hzz : (xs.zip yss).length = xs.length := by rw [List.length_zip]; omega
  refine PySem.W.sorted_key_data (b := false) (fun b : V × List V => .int (b.2.length : Nat)) pl.isList e (PySem.W.AllAlike.of fun _ _ => by simp [PySem.W.alike]) (PySem.W.Sortable.others fun _ => ⟨by simp, fun _ => by simp⟩) (by rw [hzz]; exact hz) (fun b _ => ?_)
    (ksk_s1 _ _) (fun _ => ksk_l1 _ _) (fun _ => ksk_t4 _ _) (fun u b hb _ g tk kpt => ?_) fun out c h' tk kpt hf hD hol eo => ?_
  · show X.A.units + 2 + (PyData.int (b.2.length : Nat)).depth < cLine
    simp only [PyData.depth]
    omega
  · obtain ⟨r, c, ec, hc⟩ := hb
    obtain ⟨v, ys⟩ := b
    simp only at r ec hc
    subst ec
    cases r
    have I1 : Inv X pins σ H { s with heap := g, toks := tk } := I.kept kpt
    obtain ⟨its2, rv2, pl2, hz2⟩ := I1.list (SqL.of hc)
    have hn := line63
    have h2 := rv2.length
    refine Calls.call_len_list pl2.isList (by simp only [List.size_toArray] <;> omega) ⟨g, _, rfl, fun _ _ z => z, ?_⟩
    rw [List.size_toArray, ← h2]
    exact Reads.int _ _
  · rw [PySem.W.dataLe_int (β := V × List V) fun b => ((b.2.length : Nat) : Int)] at eo
    have hv := each_vals (fun u b (h : RelV b.1 u ∧ ∃ c, b.1 = .ref c ∧ H c = some (.lst b.2)) => h.1) eo
    refine ⟨.ref _, _, I.laid (t' := tk) (o := .lst _) kpt (Nat.le_succ _) ⟨?_, out, c, hv, hD⟩, rfl, h _ (I.hok.fresh (Nat.le_succ _))⟩
    rw [List.length_map, (List.mergeSort_perm _ _).length_eq, hzz]
    exact hz
/-- sorted(e, key=len) -/
theorem xe_sortedLen (m : X.mg "sorted" = none) (m2 : X.mg "len" = none) (hu : X.A.units + 65 < cLine) (ha : PE X e te) (hg : Gl X "sorted" := by rfl) (hg2 : Gl X "len" := by rfl) (hK : X.K = K := by rfl) (hs : starEach [e] X.env = (false, eval e X.env) :: starEach [] X.env := by rfl)
    (he : backTo pos (starEach [e] X.env) = (false, eval e X.env) :: backTo pos (starEach [] X.env) := by rfl) (hpl : (backTo pos (starEach [e] X.env)).any (·.1) = false := by rfl) :
    PE X (.Call (.Name "sorted" p) [e] [⟨some "key", .Name "len" q, kp⟩] pos) (tCB (rSortLen K) (tCons te tNil)) := by
  subst hK
  refine ⟨fun pins s σ H Q I h => ?_⟩
  refine wpAny_Call_Name_kw (ld_blt I hg m (u := .builtin "sorted") (by decide +kernel) (PyProof.Rows.callWith_kw (thn ((pa_cons ha pa_nil hs).run pos pins s σ H _ I h) fun us s1 ⟨vs, H1, I1, r1, q1⟩ => ?_) he hpl rfl rfl))
  show wpAny _ _ (evalAll [do let v ← eval (.Name "len" q) X.env; standAt pos; pure v]) _ _ s1
  refine wpAny_evalAll_cons (wpAny_bind (ld_blt I1 hg2 m2 (u := .builtin "len") (by decide +kernel) (wpAny_bind (wpAny_standAt (wpAny_pure (wpAny_evalAll_nil ?_))))))
  obtain ⟨a, xs, yss, rfl, hsq, hl, k⟩ := q1
  obtain rfl := Vals.ref1 r1
  exact len_run (by omega) I1 hsq hl k
end
/-! ### as data -/
theorem dqAll_lsts {G H : Hp} (hs : Same G H) : ∀ {vs : List V} {ls : List (List PyData)}, DqAll G vs (ls.map PyData.list) → ∃ yss, Lsts H vs yss ∧ yss.map List.length = ls.map List.length ∧ ∀ b, b ∈ vs.zip ls → Dq G b.1 (.list b.2)
  | _, [], h => by cases h; exact ⟨[], .nil, rfl, by simp⟩
  | _, l :: ls, h => by
    rw [List.map_cons] at h
    cases h with
    | cons h1 h2 =>
      obtain ⟨yss, a, b, c⟩ := dqAll_lsts hs h2
      cases h1 with
      | lst ha hall =>
        refine ⟨_ :: yss, .cons (hs _ _ ha) a, by simp [b, hall.len], fun x hx => ?_⟩
        rw [List.zip_cons_cons] at hx
        rcases List.mem_cons.mp hx with rfl | hx
        · exact .lst ha hall
        · exact c x hx
theorem zip_map_right' {α β γ : Type} (f : β → γ) : ∀ (xs : List α) (ys : List β), xs.zip (ys.map f) = (xs.zip ys).map fun b => (b.1, f b.2)
  | [], _ => by simp
  | _ :: _, [] => by simp
  | x :: xs, y :: ys => by simp [zip_map_right' f xs ys]
/-- sorting by the lengths alone -/
theorem sort_by_len {α β γ : Type} {xs : List α} {ys : List (List β)} {zs : List (List γ)} (h : ys.map List.length = zs.map List.length) :
    ((xs.zip ys).mergeSort fun b c => decide ((b.2.length : Int) ≤ c.2.length)).map (·.1) = ((xs.zip zs).mergeSort fun b c => decide (b.2.length ≤ c.2.length)).map (·.1) := by
  have e1 := List.map_mergeSort (r := fun (b c : α × List β) => decide ((b.2.length : Int) ≤ c.2.length)) (s := fun (b c : α × Nat) => decide (b.2 ≤ c.2)) (f := fun b => (b.1, b.2.length)) (l := xs.zip ys) (fun a _ b _ => by simp)
  have e2 := List.map_mergeSort (r := fun (b c : α × List γ) => decide (b.2.length ≤ c.2.length)) (s := fun (b c : α × Nat) => decide (b.2 ≤ c.2)) (f := fun b => (b.1, b.2.length)) (l := xs.zip zs) (fun a _ b _ => by simp)
  rw [← zip_map_right' List.length, h, zip_map_right'] at e1
  have e3 := e1.trans e2.symm
  have e4 := congrArg (List.map Prod.fst) e3
  rw [List.map_map, List.map_map] at e4
  exact e4
theorem RR_sortLen {K : PySem.W.Frag} {ls : List (List PyData)} : RR (rSortLen K) [.list (ls.map .list)] (.list ((sortLen ls).map .list)) := fun vs G H Q hs hd k => by
  obtain ⟨x, rfl, hx⟩ := hd.one
  cases hx with
  | @lst a xs _ ha hall =>
    obtain ⟨yss, h1, h2, h3⟩ := dqAll_lsts hs hall
    refine ⟨_, _, yss, rfl, SqL.of (hs _ _ ha), h1, fun p hp => ?_⟩
    rw [sort_by_len h2]
    refine k _ _ _ (.new hs hp) (.lst upd_same (DqAll.up (G := G) ?_ (same_new (hs.free hp))))
    have hlen : xs.length = ls.length := by simpa using hall.len
    have e : sortLen ls = ((xs.zip ls).mergeSort fun b c => decide (b.2.length ≤ c.2.length)).map (·.2) := by
      rw [List.map_mergeSort (r := fun (b c : V × List PyData) => decide (b.2.length ≤ c.2.length)) (s := fun b c => decide (b.length ≤ c.length)) (f := fun b => b.2) (fun _ _ _ _ => rfl), zip_snd hlen]
      rfl
    rw [e, List.map_map]
    have q := dqAll_of (G := G) (zs := ((xs.zip ls).mergeSort fun b c => decide (b.2.length ≤ c.2.length)).map fun b => (b.1, PyData.list b.2)) (fun b hb => by
      obtain ⟨c, hc, rfl⟩ := List.mem_map.mp hb
      exact h3 c ((List.mergeSort_perm _ _).mem_iff.mp hc))
    rw [List.map_map, List.map_map] at q
    exact q
end PD
set_option Elab.async false
set_option linter.all false
set_option maxRecDepth 100000
set_option maxHeartbeats 4000000
/-! PdStmt: own lists that a body fills; append, extend -/
namespace PD
open PySem PySem.Spec PyProof.Rows L2
/-- since (G0, H0): the frozen part is G, the heap H; the lists at ps are the body's own -/
structure Gr (G0 H0 : Hp) (ps : List Addr) (G H : Hp) : Prop where
  gg : Same G0 G
  gh : Same G H
  hh : Same H0 H
  fr : ∀ a, G a ≠ none → G0 a ≠ none ∨ H0 a = none
  own : ∀ p, p ∈ ps → G p = none ∧ H0 p = none ∧ ∃ xs, H p = some (.lst xs)
  nd : ps.Nodup
section
variable {G0 H0 G H G' H' : Hp} {ps : List Addr} {p : Addr} {xs ys : List V}
theorem Gr.start (h : Same G0 H0) : Gr G0 H0 [] G0 H0 := ⟨Same.refl _, h, Same.refl _, fun _ h => .inl h, by simp, List.nodup_nil⟩
theorem Gr.ext (g : Gr G0 H0 ps G H) (e : Ext G H G' H') : Gr G0 H0 ps G' H' := by
  refine ⟨g.gg.trans e.gg, e.gh, g.hh.trans e.hh, fun a h => (e.fr a h).elim (g.fr a) fun z => .inr (g.hh.free z), fun q hq => ?_, g.nd⟩
  obtain ⟨a1, a2, ys, a3⟩ := g.own q hq
  refine ⟨?_, a2, ys, e.hh _ _ a3⟩
  cases z : G' q with
  | none => rfl
  | some o =>
    rcases e.fr q (by simp [z]) with y | y
    · exact absurd a1 y
    · rw [a3] at y; cases y
theorem Gr.same (g : Gr G0 H0 ps G H) (e : Same H H') : Gr G0 H0 ps G H' := g.ext (.more g.gh e)
theorem Gr.new (g : Gr G0 H0 ps G H) (hp : H p = none) : Gr G0 H0 (p :: ps) G (upd H p (.lst xs)) := by
  refine ⟨g.gg, g.gh.trans (same_new hp), g.hh.trans (same_new hp), g.fr, fun q hq => ?_, List.nodup_cons.mpr ⟨fun m => ?_, g.nd⟩⟩
  · rcases List.mem_cons.mp hq with rfl | hq
    · exact ⟨g.gh.free hp, g.hh.free hp, xs, upd_same⟩
    · obtain ⟨a1, a2, ys, a3⟩ := g.own q hq
      exact ⟨a1, a2, ys, by rw [upd_ne (ne_of_none a3 hp)]; exact a3⟩
  · obtain ⟨_, _, ys, a3⟩ := g.own p m
    rw [hp] at a3; cases a3
theorem Gr.put (g : Gr G0 H0 ps G H) (hp : p ∈ ps) : Gr G0 H0 ps G (upd H p (.lst xs)) := by
  obtain ⟨a1, a2, _⟩ := g.own p hp
  refine ⟨g.gg, same_off g.gh a1, same_off g.hh a2, g.fr, fun q hq => ?_, g.nd⟩
  obtain ⟨b1, b2, ys, b3⟩ := g.own q hq
  by_cases e : q = p
  · subst e; exact ⟨b1, b2, xs, upd_same⟩
  · exact ⟨b1, b2, ys, by rw [upd_ne e]; exact b3⟩
theorem Gr.tmp (g : Gr G0 H0 ps G H) (hp : p ∈ ps) (h : H p = some (.lst xs)) : Same (upd G p (.lst xs)) H ∧ Same G (upd G p (.lst xs)) := by
  obtain ⟨a1, a2, _⟩ := g.own p hp
  refine ⟨fun b o e => ?_, same_new a1⟩
  by_cases z : b = p
  · subst z; rw [upd_same] at e; rw [h]; exact e
  · rw [upd_ne z] at e; exact g.gh _ _ e
theorem Gr.freeze (g : Gr G0 H0 (p :: ps) G H) (h : H p = some (.lst xs)) : Gr G0 H0 ps (upd G p (.lst xs)) H := by
  have hp : p ∈ p :: ps := List.mem_cons_self ..
  obtain ⟨a1, a2, _⟩ := g.own p hp
  have nd := List.nodup_cons.mp g.nd
  refine ⟨g.gg.trans (same_new a1), (g.tmp hp h).1, g.hh, fun a q => ?_, fun q hq => ?_, nd.2⟩
  · by_cases e : a = p
    · subst e; exact .inr a2
    · rw [upd_ne e] at q; exact g.fr a q
  · obtain ⟨b1, b2, b3⟩ := g.own q (List.mem_cons_of_mem _ hq)
    have ne : q ≠ p := fun e => nd.1 (by rw [← e]; exact hq)
    exact ⟨by rw [upd_ne ne]; exact b1, b2, b3⟩
/-- dropped -/
theorem Gr.drop (g : Gr G0 H0 (p :: ps) G H) : Gr G0 H0 ps G H := ⟨g.gg, g.gh, g.hh, g.fr, fun q hq => g.own q (List.mem_cons_of_mem _ hq), (List.nodup_cons.mp g.nd).2⟩
theorem Gr.done (g : Gr G0 H0 ps G H) : Ext G0 H0 G H := ⟨g.hh, g.gg, g.gh, g.fr⟩
end
/-! ### x.append(e), x.extend(e) of a name whose list is the body's own -/
section
variable {G0 H0 G H : Hp} {ps : List Addr} {p : Addr} {acc : List V} {K : PySem.W.Frag} {i : Nat} {te : TE} {D : Ends} {σ : L2.St} {d : PyData} {ds : List PyData}
theorem put_append (g : Gr G0 H0 ps G H) (hp : p ∈ ps) (hσ : σ[i]? = some (some (.ref p))) (hx : H p = some (.lst acc)) (h : PR te σ G d) (z : acc.length < sizeLine)
    (k : ∀ v G1 H1, Gr G0 H0 ps G1 H1 → Same G G1 → Dq G1 v d → H1 p = some (.lst (acc ++ [v])) → (∀ q o, q ≠ p → H q = some o → H1 q = some o) → D.nx σ H1) : tDrop (tBM K "list" rAppend (tVar i) (tCons te tNil)) D σ H := by
  refine ⟨_, hσ, .inl ⟨rfl, _, SqL.of hx⟩, h H _ g.gh fun v G1 H1 e1 dv => ?_⟩
  have g1 := g.ext e1
  exact ⟨p, acc, v, rfl, rfl, e1.hh _ _ hx, z, k v G1 _ (g1.put hp) e1.gg dv upd_same fun q o hq e => by rw [upd_ne hq]; exact e1.hh _ _ e⟩
theorem put_extend (g : Gr G0 H0 ps G H) (hp : p ∈ ps) (hσ : σ[i]? = some (some (.ref p))) (hx : H p = some (.lst acc)) (h : PR te σ G (.list ds)) (z : acc.length + ds.length ≤ sizeLine)
    (k : ∀ vs G1 H1, Gr G0 H0 ps G1 H1 → Same G G1 → DqAll G1 vs ds → H1 p = some (.lst (acc ++ vs)) → (∀ q o, q ≠ p → H q = some o → H1 q = some o) → D.nx σ H1) : tDrop (tBM K "list" rExtend (tVar i) (tCons te tNil)) D σ H := by
  refine ⟨_, hσ, .inl ⟨rfl, _, SqL.of hx⟩, h H _ g.gh fun v G1 H1 e1 dv => ?_⟩
  have g1 := g.ext e1
  cases dv with
  | lst ha hall =>
    exact ⟨p, _, acc, _, rfl, rfl, e1.hh _ _ hx, e1.gh _ _ ha, by rw [hall.len]; exact z, k _ G1 _ (g1.put hp) e1.gg hall upd_same fun q o hq e => by rw [upd_ne hq]; exact e1.hh _ _ e⟩
end
/-- the terms for x.append(e), x.extend(e) -/
theorem xs_append {X : Cx} {o e : Expr} {to te : TE} {p1 p2 p3 : Pos} (ho : PE X o to) (he : PE X e te) (hs : starEach [e] X.env = (false, eval e X.env) :: starEach [] X.env := by rfl)
    (hb : attributeBase o "append" X.env (eval o X.env) = eval o X.env := by rfl)
    (hfew : ((backTo p2 (starEach [e] X.env)).all (fun x => !x.1) && (backToKw p2 (keywordEach [] X.env)).all (fun x => x.1.isSome) && decide ([e].length + ([] : List Keyword).length + (if ([] : List Keyword).isEmpty then 0 else 1) < 30)) = true := by rfl)
    (hl : (p1.endLine == p2.line) = true := by rfl) (hw : swapsWith (.Call (.Attribute o "append" p1) [e] [] p2) none p3.line X.env = pure false := by rfl) :
    PS X (.Expr (.Call (.Attribute o "append" p1) [e] [] p2) p3) (tDrop (tBM X.K "list" rAppend to (tCons te tNil))) :=
  ps_expr (pe_bm PySem.F.plainAttrs_list PySem.F.slot_list_append PySem.F.type_list_append mt_append ho (pa_cons he pa_nil hs) (hs := hs) (hbase := hb) (hfew := hfew) (hline := hl)) hw
theorem xs_extend {X : Cx} {o e : Expr} {to te : TE} {p1 p2 p3 : Pos} (ho : PE X o to) (he : PE X e te) (hs : starEach [e] X.env = (false, eval e X.env) :: starEach [] X.env := by rfl)
    (hb : attributeBase o "extend" X.env (eval o X.env) = eval o X.env := by rfl)
    (hfew : ((backTo p2 (starEach [e] X.env)).all (fun x => !x.1) && (backToKw p2 (keywordEach [] X.env)).all (fun x => x.1.isSome) && decide ([e].length + ([] : List Keyword).length + (if ([] : List Keyword).isEmpty then 0 else 1) < 30)) = true := by rfl)
    (hl : (p1.endLine == p2.line) = true := by rfl) (hw : swapsWith (.Call (.Attribute o "extend" p1) [e] [] p2) none p3.line X.env = pure false := by rfl) :
    PS X (.Expr (.Call (.Attribute o "extend" p1) [e] [] p2) p3) (tDrop (tBM X.K "list" rExtend to (tCons te tNil))) :=
  ps_expr (pe_bm PySem.F.plainAttrs_list PySem.F.slot_list_extend PySem.F.type_list_extend mt_extend ho (pa_cons he pa_nil hs) (hs := hs) (hbase := hb) (hfew := hfew) (hline := hl)) hw
end PD
namespace PD
open PySem PySem.Spec PyProof.Rows L2
section
variable {G0 H0 G G1 H H' : Hp} {ps : List Addr} {x : V} {d : PyData}
/-- behind a turn's item -/
theorem Gr.yld (g : Gr G0 H0 ps G H) (h1 : Same G1 G) (y : ∀ G2, Same G1 G2 → Same G2 H → ∃ G3, Ext G2 H G3 H' ∧ Dq G3 x d) : ∃ G3, Gr G0 H0 ps G3 H' ∧ Same G G3 ∧ Dq G3 x d := by
  obtain ⟨G3, e, dx⟩ := y G h1 g.gh
  exact ⟨G3, g.ext e, e.gg, dx⟩
/-- the own lists stand as they stood -/
theorem Gr.at (g : Gr G0 H0 ps G H) (e : Same H H') {p : Addr} {xs : List V} (h : H p = some (.lst xs)) : H' p = some (.lst xs) := e _ _ h
end
/-- every two can be compared, none is None, all are small -/
def Kin (ds : List PyData) : Prop := PySem.W.AllAlike ds ∧ ∀ d, d ∈ ds → d ≠ .none ∧ Sh 3 d
theorem Kin.sub {ds es : List PyData} (h : Kin ds) (s : ∀ d, d ∈ es → d ∈ ds) : Kin es := ⟨fun d hd e he => h.1 d (s d hd) e (s e he), fun d hd => h.2 d (s d hd)⟩
theorem Kin.shL {ds : List PyData} (h : Kin ds) : ShL 3 ds := fun d hd => (h.2 d hd).2
theorem Kin.sortOk {ds : List PyData} (h : Kin ds) : SortOk ds := ⟨h.1, fun d hd => ⟨(h.2 d hd).1, Nat.le_trans (h.2 d hd).2.2 (by decide), (h.2 d hd).2.noDict⟩⟩
theorem sortD_mem {ds : List PyData} {d : PyData} : d ∈ sortD ds ↔ d ∈ ds := (List.mergeSort_perm ds leD).mem_iff
theorem sortD_len (ds : List PyData) : (sortD ds).length = ds.length := (List.mergeSort_perm ds leD).length_eq
theorem sortLen_mem {α : Type} {ls : List (List α)} {l : List α} : l ∈ sortLen ls ↔ l ∈ ls := (List.mergeSort_perm ls _).mem_iff
theorem sortLen_len {α : Type} (ls : List (List α)) : (sortLen ls).length = ls.length := (List.mergeSort_perm ls _).length_eq
end PD
namespace PD
open PySem PySem.Spec PyProof.Rows L2
theorem tFor_use {wi : TI} {g : TG} {tb : TS} {D : Ends} {σ : L2.St} {G H : Hp} {ds : List PyData} (hs : Same G H) (hw : WR wi σ G ds)
    (k : ∀ J G1 H1, Ext G H G1 H1 → DW J G1 ds → ∃ W : Nat → Nat → L2.St → Hp → Prop, (∃ m, W 0 m σ H1) ∧ ∀ i m σ H, W i m σ H → (J.stop i H ∧ D.nx σ H) ∨ (J.go i H ∧ ∃ N : L2.St → Hp → Prop, (∀ σ' H', N σ' H' → ∃ m', m' < m ∧ W (i + 1) m' σ' H') ∧
      ∀ x H', J.yld i H x H' → g x σ H' fun σ2 H2 => tb { D with nx := N, ct := N, bk := D.nx } σ2 H2)) : tFor wi g tb D σ H := hw H _ hs k
end PD
namespace PD
open PySem PySem.Spec PyProof.Rows L2
/-- the turns of a for over one name -/
theorem for_nm {J : It} {G : Hp} {ds : List PyData} {i : Nat} {tb : TS} {D : Ends} {σ : L2.St} {H : Hp} (dw : DW J G ds) (Pv : Nat → L2.St → Hp → Prop) (h0 : Pv 0 σ H) (hG : ∀ j σ H, j ≤ ds.length → Pv j σ H → Same G H)
    (hs : ∀ j d x σ H H', ds[j]? = some d → Pv j σ H → Same H H' → (∀ G1, Same G G1 → Same G1 H → ∃ G2, Ext G1 H G2 H' ∧ Dq G2 x d) → tb { D with nx := Pv (j + 1), ct := Pv (j + 1), bk := D.nx } (σ.set i (some x)) H') (hd : ∀ σ H, Pv ds.length σ H → D.nx σ H) :
    ∃ W : Nat → Nat → L2.St → Hp → Prop, (∃ m, W 0 m σ H) ∧ ∀ j m σ H, W j m σ H → (J.stop j H ∧ D.nx σ H) ∨ (J.go j H ∧ ∃ N : L2.St → Hp → Prop, (∀ σ' H', N σ' H' → ∃ m', m' < m ∧ W (j + 1) m' σ' H') ∧
      ∀ x H', J.yld j H x H' → gName i x σ H' fun σ2 H2 => tb { D with nx := N, ct := N, bk := D.nx } σ2 H2) :=
  for_it dw.w Pv h0 hG (fun j x σ H H' _ p ⟨d, a, b, c⟩ => hs j d x σ H H' a p b c) hd
theorem tIf_use {tc : TT} {t u : TS} {D : Ends} {σ : L2.St} {G H : Hp} {b : Bool} (h : TR tc σ G b) (hs : Same G H) (k : ∀ H', Same H H' → if b = true then t D σ H' else u D σ H') : tIfS tc t u D σ H := h H _ hs k
end PD
namespace PD
open PySem PySem.Spec PyProof.Rows L2
theorem tSet_use {te : TE} {i : Nat} {D : Ends} {σ : L2.St} {G H : Hp} {d : PyData} (hs : Same G H) (h : PR te σ G d) (k : ∀ v G' H', Ext G H G' H' → Dq G' v d → D.nx (σ.set i (some v)) H') : tAsg te (gName i) D σ H := h H _ hs k
theorem tRet_use {te : TE} {D : Ends} {σ : L2.St} {G H : Hp} {d : PyData} (hs : Same G H) (h : PR te σ G d) (k : ∀ v G' H', Ext G H G' H' → Dq G' v d → D.rt v H') : tRet te D σ H := h H _ hs k
end PD
set_option Elab.async false
set_option linter.all false
set_option maxRecDepth 100000
set_option maxHeartbeats 4000000
/-! PdExc: own error classes whose __init__ keeps its one argument under the name f; raising them -/
namespace PD
open PySem PySem.Spec PyProof.Rows L2
/-- what __init__(self, p): self.f = p promises -/
def spI (C : Addr) (f : Str) : Sp := fun vs H Q _ => ∃ a v, vs = [.ref a, v] ∧ H a = some (exo a C none) ∧ ∀ dx, H dx = none → dx ≠ a → Q .non (upd (upd H dx (exd dx [(f, v)])) a (exo a C (some dx)))
structure Xcl (P : Program) (w : World) (K : PySem.W.Frag) (mg : Str → Option Value) (base : Heap) (C : Addr) (x f : Str) : Prop where
  oex : OexC K C
  gC : mg x = some (.ref C)
  ini : ∃ fI fd ps, PySem.W.findIn K (.ref C) "__init__" = some (some (.ref fI)) ∧ PySem.W.typeIn K (.ref fI) = some (.type "function") ∧ Binds K fd ps [] ∧ FnOk P w K mg base CX0 1 fI fd ps (spI C f)
  xf : XfC K C
  no : PySem.W.findIn K (.ref C) f = some none
/-- the raise's reading -/
def tRaiseX (C : Addr) (f : Str) (W : WX) (te : TE) : TS := fun _ σ H => tMkO C (spI C f) [] (tCons te tNil) σ H fun cls d H' => W cls d σ H'
section
variable {X : Cx} {W : WX} {C : Addr} {x f : Str} {e : Expr} {te : TE} {p1 p2 p3 : Pos} {k : Nat}
theorem ps_raiseX (T : Xcl X.prog X.w X.K X.mg X.base C x f) (hr : Room (k + 2) X.A) (tk : Takes X W) (ha : PE X e te) (hc : X.calm = true := by rfl) (hg : Gl X x := by rfl) (hdb : (x == ("__debug__" : Str)) = false := by decide)
    (he : starEach [e] X.env = (false, eval e X.env) :: starEach [] X.env := by rfl) (hpl : (backTo p2 (starEach [] X.env)).any (·.1) = false := by rfl) :
    PS X (.Raise (some (.Call (.Name x p1) [e] [] p2)) none p3) (tRaiseX C f W te) := by
  obtain ⟨fI, fd, ps, h1, h2, h3, h4⟩ := T.ini
  exact ps_raise (pos := p3) hc tk (pmk_oex (p := p1) (pos := p2) T.oex h1 h2 h4 (hr.mono (by omega)) h3 .nil pass0 hg T.gC (pa_cons ha pa_nil he) hdb he hpl)
end
/-- raise x(name) -/
theorem raise_var {C : Addr} {f : Str} {W : WX} {i : Nat} {D : Ends} {σ : L2.St} {H : Hp} {v : V} (hσ : σ[i]? = some (some v)) (k : ∀ dx H', H dx = none → H' dx = some (.xd [(f, v)]) → Same H H' → W (.ref C) (some dx) σ H') : tRaiseX C f W (tVar i) D σ H := by
  refine ⟨v, hσ, by show 1 ≤ 1000; decide, fun a ha => ⟨a, v, rfl, upd_same, fun dx hdx ne => ⟨rfl, dx, [(f, v)], upd_same, ?_, ?_, ?_⟩⟩⟩
  · rw [upd_ne ne, upd_same]
  · rw [upd_ne ne] at hdx
    exact hdx
  · rw [upd_ne ne] at hdx
    refine k dx _ hdx upd_same fun b o e => ?_
    have nb : b ≠ dx := ne_of_none e hdx
    have na : b ≠ a := ne_of_none e ha
    rw [upd_ne nb, del_ne na, upd_ne na, upd_ne nb, upd_ne na]
    exact e
/-- what is raised, as its catcher knows it -/
def XOut (C : Addr) (f : Str) (v : V) (H : Hp) (E : XK) : Prop := ∀ dx H', H dx = none → H' dx = some (.xd [(f, v)]) → Same H H' → E (.ref C) (some dx) H'
theorem XOut.back {C : Addr} {f : Str} {v : V} {H H1 : Hp} {E : XK} (h : XOut C f v H E) (e : Same H H1) : XOut C f v H1 E := fun dx H' h1 h2 h3 => h dx H' (e.free h1) h2 (e.trans h3)
/-! ### the text of such an __init__ -/
theorem xInit {P : Program} {w : World} {K : PySem.W.Frag} {mg : Str → Option Value} {base : Heap} {C fI : Addr} {fd : FuncData} {q p f : Str} {st : Stmt} (F : Fun K "__init__" q st fI fd) (hst : FnScope [("self" : Str), p] [("self" : Str), p] (defScope st)) (o : OexC K C) (no : PySem.W.findIn K (.ref C) f = some none)
    (hb : ∀ X : Cx, X.N = [("self" : Str), p] → X.env.scope = defScope st → X.K = K → PSs X (defBody st) (tOst K f (tVar 0) (tVar 1))) : FnOk P w K mg base CX0 1 fI fd [("self" : Str), p] (spI C f) := by
  refine F.ok hst (fun vs H Q E h => ?_) (fun cdv A outer s H vs Q E hr h => ?_)
  · obtain ⟨a, v, rfl, _⟩ := h
    rfl
  · obtain ⟨a, v, rfl, ha, k⟩ := h
    refine ⟨_, hb _ rfl rfl rfl, ?_⟩
    exact ⟨v, rfl, .ref a, rfl, a, C, rfl, o, no, .inl ⟨ha, fun dx h1 h2 => k dx h1 h2⟩⟩
/-- a def that may raise, by its body -/
theorem Df.fnX {P : Program} {w : World} {K : PySem.W.Frag} {mg : Str → Option Value} {base : Heap} {x : Str} {k n : Nat} {sp : Sp} {st : Stmt} {N ps : List Str} (D : Df K mg x st) (S : FnScope N ps (defScope st)) (len : ∀ vs H Q E, sp vs H Q E → vs.length = ps.length) (hn : ps.length = n)
    (hb : ∀ (kV doc pm : Value) (an : Option Addr) (cdv ct : Value) (us : List Value), us.length = ps.length → bindArgs (PySem.W.fnOf x x (defArgs st) (defBody st) (defScope st) .none kV doc pm an cdv ct) ⟨us, []⟩ = Pure.pure (ps.zip us))
    (hbody : ∀ (f : Addr) (cdv : Value) (A : Around) (outer : List Env) (s : Shared) (H : Hp) (vs : List V) (Q : VK) (E : XK), Room k (A.deeper (envOfC x (defScope st) s.heap.objs.size f cdv)) → sp vs H Q E →
      ∃ t, PSs (cxOf (L2.CX P w) P w K mg base N x (defScope st) f cdv A outer s H E) (defBody st) t ∧ t { nx := fun _ H' => Q .non H', rt := Q } (start N vs) H) : Fn P w K mg base (L2.CX P w) x (k + 1) n sp := by
  obtain ⟨f, fd, h1, h2⟩ := D.ex
  exact ⟨f, fd, ps, h1, h2.kp, hn, h2.binds hb, h2.okX S len (hbody f)⟩
theorem PV {i : Nat} {σ : L2.St} {G : Hp} {v : V} {d : PyData} (k : Dq G v d) (h : σ[i]? = some (some v) := by rfl) : PR (tVar i) σ G d := PR_var h k
theorem nxt {D : Ends} {σ : L2.St} {H : Hp} (h : D.nx σ H) : tNext D σ H := h
theorem RR2_neB {b c : Bool} : RR2 rNe (.bool b) (.bool c) (.bool (b != c)) := fun x y G H Q hs h1 h2 k => by
  cases h1
  cases h2
  refine ⟨rfl, ?_⟩
  have e : (!decide (V.bl b = V.bl c)) = (b != c) := by rw [dec_bl]; rfl
  rw [e]
  exact k _ G H (.refl hs) (.bl _)
end PD
set_option Elab.async false
set_option linter.all false
set_option maxRecDepth 100000
set_option maxHeartbeats 4000000
/-! PdClo: functions as values: the cells that they captured stand tracked while others run -/
namespace PD
open PySem PySem.Spec PyProof.Rows L2
/-- a cell, as it is -/
def CelO (c : Addr) (o : Obj) : HO := .ext fun h => h.get? c = some o
/-- T's entries at cs, over H -/
def ovr (cs : List Addr) (T H : Hp) : Hp := fun a => if a ∈ cs then T a else H a
/-- what is wanted behind a call that saw no cells: they are put back -/
abbrev putQ (cs : List Addr) (H : Hp) (Q : VK) : VK := fun v H3 => (∀ a ∈ cs, H3 a = none) → Q v (ovr cs H H3)
abbrev putE (cs : List Addr) (H : Hp) (E : XK) : XK := fun cls d H3 => (∀ a ∈ cs, H3 a = none) → E cls d (ovr cs H H3)
def rm (cs : List Addr) (H : Hp) : Hp := ovr cs (fun _ => none) H
section
variable {cs : List Addr} {T H H' : Hp} {a : Addr} {P : Program} {w : World} {h : Heap} {o : HO}
theorem ovr_in (h : a ∈ cs) : ovr cs T H a = T a := if_pos h
theorem ovr_off (h : a ∉ cs) : ovr cs T H a = H a := if_neg h
theorem rm_in (h : a ∈ cs) : rm cs H a = none := if_pos h
theorem rm_off (h : a ∉ cs) : rm cs H a = H a := if_neg h
theorem rm_some (h : rm cs H a = some o) : a ∉ cs ∧ H a = some o := by
  by_cases q : a ∈ cs
  · rw [rm_in q] at h; cases h
  · rw [rm_off q] at h; exact ⟨q, h⟩
def Celled (cs : List Addr) (H : Hp) : Prop := ∀ c ∈ cs, ∃ o, H c = some (CelO c o)
theorem Celled.off (x : Celled cs H) {b : Addr} {u : HO} (e : H b = some u) (n : ∀ φ, u ≠ .ext φ) : b ∉ cs := fun z => by
  obtain ⟨ob, q⟩ := x b z
  rw [e] at q
  exact n _ (Option.some.inj q)
theorem cel_ok {ob : Obj} {H : Hp} (e : h.get? a = some ob) : ObjOk P w H h a (CelO a ob) := ⟨e, ⟨ob, e⟩, fun _ _ x st => st _ x⟩
theorem hok_rm (x : HOk P w H h) (c : Celled cs H) : HOk P w (rm cs H) h := fun b u e => by
  obtain ⟨nb, e⟩ := rm_some e
  refine (x b u e).stay (fun _ _ _ q => q) (fun d q => ?_) fun d xs q => ?_
  · rw [rm_off (c.off q fun _ z => by cases z)]; exact q
  · rw [rm_off (c.off q fun _ z => by cases z)]; exact q
theorem hok_ovr (x : HOk P w H h) (hn : ∀ c ∈ cs, H c = none) (c : ∀ c ∈ cs, ∃ ob, T c = some (CelO c ob) ∧ h.get? c = some ob) : HOk P w (ovr cs T H) h := fun b u e => by
  by_cases q : b ∈ cs
  · obtain ⟨ob, e1, e2⟩ := c b q
    rw [ovr_in q, e1] at e
    cases e
    exact cel_ok e2
  · rw [ovr_off q] at e
    refine (x b u e).stay (fun _ _ _ q => q) (fun d q => ?_) fun d xs q => ?_
    · rw [ovr_off fun z => by rw [hn d z] at q; cases q]; exact q
    · rw [ovr_off fun z => by rw [hn d z] at q; cases q]; exact q
end
/-! ### a call, the cells tracked while it runs -/
section
variable {cs : List Addr} {T H H' : Hp} {P : Program} {w : World} {K : PySem.W.Frag} {mg : Str → Option Value} {base : Heap} {A : Around} {outer : List Env} {s s' : Shared} {Q : VK} {u : Value}
/-- what a frame must tell of its cells -/
structure CellsIn (cs : List Addr) (T H : Hp) (base : Heap) (outer : List Env) (s : Shared) : Prop where
  no : ∀ c ∈ cs, H c = none
  at_ : ∀ c ∈ cs, ∃ ob, T c = some (CelO c ob) ∧ s.heap.get? c = some ob
  nb : ∀ c ∈ cs, base.get? c = none
  nf : ∀ c ∈ cs, c ∉ frs outer
theorem CellsIn.env0 (c : CellsIn cs T H base outer s) (e : Env0 P w K mg base A outer s H) : Env0 P w K mg base A outer s (ovr cs T H) :=
  ⟨e.frames, e.mod, fun b o q => ⟨(e.bs b o q).1, by rw [ovr_off fun z => by rw [c.nb b z] at q; cases q]; exact (e.bs b o q).2⟩, e.bsz, e.funs, fun b hb => by rw [ovr_off fun z => c.nf b z hb]; exact e.frf b hb, hok_ovr e.hok c.no c.at_, e.bare⟩
/-- back in the frame -/
theorem CellsIn.back (c : CellsIn cs T H base outer s) (h : CE outer P w (ovr cs T H) s (fun v H3 => (∀ a ∈ cs, H3 a = T a) ∧ Q v (rm cs H3)) u s') : CE outer P w H s Q u s' := by
  obtain ⟨v, H3, os, bare, un, hok, r, q1, q2⟩ := h
  have cel : Celled cs H3 := fun a ha => by
    obtain ⟨ob, e, _⟩ := c.at_ a ha
    exact ⟨ob, (q1 a ha).trans e⟩
  have offH : ∀ {b : Addr} {o : HO}, H b = some o → b ∉ cs := fun {b o} e z => by rw [c.no b z] at e; cases e
  refine ⟨v, rm cs H3, os, bare, ⟨fun b o e n hb hx => ?_, fun b o e n hb hx => ?_, fun b o e n hx => ?_, un.there, fun b xs e => ?_, fun b o x e => ?_, fun b ps e => ?_⟩, hok_rm hok cel, r, q2⟩
  · by_cases z : b ∈ cs
    · obtain ⟨ob, e1, e2⟩ := c.at_ b z
      rw [e] at e2
      cases e2
      exact (hok b _ ((q1 b z).trans e1)).1
    · exact un.keep b o e (by rw [ovr_off z]; exact n) hb hx
  · have z : b ∉ cs := fun z => c.nf b z hb
    exact un.slot b o e (by rw [ovr_off z]; exact n) hb hx
  · by_cases z : b ∈ cs
    · exact rm_in z
    · rw [rm_off z]
      exact un.free b o e (by rw [ovr_off z]; exact n) hx
  · have z := offH e
    rw [rm_off z]
    exact un.tups b xs (by rw [ovr_off z]; exact e)
  · have z := offH e
    rw [rm_off z]
    exact un.frzs b o x (by rw [ovr_off z]; exact e)
  · have z := offH e
    obtain ⟨more, q⟩ := un.tbls b ps (by rw [ovr_off z]; exact e)
    exact ⟨more, by rw [rm_off z]; exact q⟩
/-! the other way: the function whose cells are tracked runs -/
theorem env0_rm (e : Env0 P w K mg base A outer s H) (c : Celled cs H) : Env0 P w K mg base A outer s (rm cs H) := by
  have nn : ∀ {b : Addr}, H b = none → rm cs H b = none := fun {b} n => by
    by_cases z : b ∈ cs
    · exact rm_in z
    · rw [rm_off z]; exact n
  exact ⟨e.frames, e.mod, fun b o q => ⟨(e.bs b o q).1, nn (e.bs b o q).2⟩, e.bsz, e.funs, fun b hb => nn (e.frf b hb), hok_rm e.hok c, e.bare⟩
theorem ovr_none (c : Celled cs H) {b : Addr} (h : H b = none) : b ∉ cs := fun z => by
  obtain ⟨o, q⟩ := c b z
  rw [h] at q
  cases q
theorem hok_putback {h : Heap} (x : HOk P w H' h) (c : Celled cs H) (n : ∀ a ∈ cs, H' a = none) (k : ∀ a ∈ cs, ∀ o, H a = some (CelO a o) → h.get? a = some o) : HOk P w (ovr cs H H') h :=
  hok_ovr x n fun a ha => by
    obtain ⟨o, e⟩ := c a ha
    exact ⟨o, e, k a ha o e⟩
theorem ce_put (e0 : Env0 P w K mg base A outer s H) (c : Celled cs H) (h : CE outer P w (rm cs H) s (putQ cs H Q) u s') : CE outer P w H s Q u s' := by
  obtain ⟨v, H3, os, bare, un, hok, r, q⟩ := h
  have hcell : ∀ a ∈ cs, ∀ o, H a = some (CelO a o) → s.heap.get? a = some o := fun a ha o e => (e0.hok a _ e).1
  have nfr : ∀ a ∈ cs, a ∉ frs outer := fun a ha z => ovr_none c (e0.frf a z) ha
  have n3 : ∀ a ∈ cs, H3 a = none := fun a ha => by
    obtain ⟨o, e⟩ := c a ha
    exact un.free a o (hcell a ha o e) (rm_in ha) (by simp)
  have k3 : ∀ a ∈ cs, ∀ o, H a = some (CelO a o) → s'.heap.get? a = some o := fun a ha o e => un.keep a o (hcell a ha o e) (rm_in ha) (nfr a ha) (by simp)
  refine ⟨v, ovr cs H H3, os, bare, ⟨fun b o e n hb hx => ?_, fun b o e n hb hx => ?_, fun b o e n hx => ?_, un.there, fun b xs e => ?_, fun b o x e => ?_, fun b ps e => ?_⟩, hok_putback hok c n3 k3, r, q n3⟩
  · exact un.keep b o e (by rw [rm_off (ovr_none c n)]; exact n) hb hx
  · exact un.slot b o e (by rw [rm_off (ovr_none c n)]; exact n) hb hx
  · rw [ovr_off (ovr_none c n)]
    exact un.free b o e (by rw [rm_off (ovr_none c n)]; exact n) hx
  · have z := c.off e fun _ z => by cases z
    rw [ovr_off z]
    exact un.tups b xs (by rw [rm_off z]; exact e)
  · have z := c.off e fun _ z => by cases z
    rw [ovr_off z]
    exact un.frzs b o x (by rw [rm_off z]; exact e)
  · have z := c.off e fun _ z => by cases z
    obtain ⟨more, q⟩ := un.tbls b ps (by rw [rm_off z]; exact e)
    exact ⟨more, by rw [ovr_off z]; exact q⟩
theorem cx_put {E : XK} (e0 : Env0 P w K mg base A outer s H) (c : Celled cs H) (h : L2.CX P w outer (rm cs H) s (putE cs H E) u s') : L2.CX P w outer H s E u s' := by
  obtain ⟨a, B, H3, cls, d, eu, fl, hok, ub, na, os, bare, q⟩ := h
  have hcell : ∀ a ∈ cs, ∀ o, H a = some (CelO a o) → s.heap.get? a = some o := fun a ha o e => (e0.hok a _ e).1
  have nfr : ∀ a ∈ cs, a ∉ frs outer := fun a ha z => ovr_none c (e0.frf a z) ha
  have n3 : ∀ a ∈ cs, H3 a = none := fun a ha => by
    obtain ⟨o, e⟩ := c a ha
    exact ub.free a o (hcell a ha o e) (rm_in ha)
  have k3 : ∀ a ∈ cs, ∀ o, H a = some (CelO a o) → B.get? a = some o := fun a ha o e => ub.keep a o (hcell a ha o e) (rm_in ha) (nfr a ha)
  have ac : a ∉ cs := fun z => by
    obtain ⟨o, e⟩ := c a z
    have q1 := k3 a z o e
    rw [fl.2.1] at q1
    cases q1
  refine ⟨a, B, ovr cs H H3, cls, d, eu, fl, hok_putback hok c n3 k3, ⟨fun b o e n hb => ?_, ub.slot, fun b o e n => ?_, ub.there, fun b xs e => ?_, fun b o x e => ?_, fun b ps e => ?_⟩, by rw [ovr_off ac]; exact na, os, bare, q n3⟩
  · exact ub.keep b o e (by rw [rm_off (ovr_none c n)]; exact n) hb
  · rw [ovr_off (ovr_none c n)]
    exact ub.free b o e (by rw [rm_off (ovr_none c n)]; exact n)
  · have z := c.off e fun _ z => by cases z
    rw [ovr_off z]
    exact ub.tups b xs (by rw [rm_off z]; exact e)
  · have z := c.off e fun _ z => by cases z
    rw [ovr_off z]
    exact ub.frzs b o x (by rw [rm_off z]; exact e)
  · have z := c.off e fun _ z => by cases z
    obtain ⟨more, q⟩ := ub.tbls b ps (by rw [rm_off z]; exact e)
    exact ⟨more, by rw [ovr_off z]; exact q⟩
end
end PD
set_option Elab.async false
set_option linter.all false
set_option maxRecDepth 100000
set_option maxHeartbeats 4000000
/-! PdCal: functions as values: what a call promises, wherever it stands; lambdas -/
namespace PD
open PySem PySem.Spec PyProof.Rows L2 NdefX LamX
abbrev adr (cl : List (Str × Addr)) : List Addr := cl.map (·.2)
/-- the captured cells stand tracked; ws: what they hold -/
structure Cap (cl : List (Str × Addr)) (fr : List Str) (ws : List (Option V)) (H : Hp) : Prop where
  len : ws.length = fr.length
  all : ∀ c ∈ adr cl, ∃ o v, H c = some (CelO c o) ∧ o.data = .cell v
  inj : ∀ x y c, cl.lookup x = some c → cl.lookup y = some c → x = y
  has : ∀ (i : Nat) (y : Str), fr[i]? = some y → ∃ c, cl.lookup y = some c ∧ ∀ v, ws[i]? = some (some v) → ∃ o u, H c = some (CelO c o) ∧ o.data = .cell (some u) ∧ RelV v u
section
variable {cl : List (Str × Addr)} {fr : List Str} {ws : List (Option V)} {H H' : Hp} {P : Program} {w : World} {K : PySem.W.Frag} {mg : Str → Option Value} {base : Heap} {h : Heap}
theorem adr_look {y : Str} {c : Addr} (e : cl.lookup y = some c) : c ∈ adr cl := List.mem_map.mpr ⟨(y, c), PySem.mem_of_lookup e, rfl⟩
theorem Cap.celled (x : Cap cl fr ws H) : Celled (adr cl) H := fun c hc => let ⟨o, _, e, _⟩ := x.all c hc; ⟨o, e⟩
theorem Cap.up (x : Cap cl fr ws H) (e : ∀ c ∈ adr cl, H' c = H c) : Cap cl fr ws H' :=
  ⟨x.len, fun c hc => by rw [e c hc]; exact x.all c hc, x.inj, fun i y hy => let ⟨c, hc, k⟩ := x.has i y hy; ⟨c, hc, fun v hv => by rw [e c (adr_look hc)]; exact k v hv⟩⟩
theorem Cap.cells (x : Cap cl fr ws H) (ok : HOk P w H h) : CellsAt cl fr ws h (rm (adr cl) H) :=
  ⟨x.len, fun y c e => ⟨rm_in (adr_look e), by
    obtain ⟨o, v, e1, e2⟩ := x.all c (adr_look e)
    exact ⟨v, o, (ok c _ e1).1, e2⟩⟩, x.inj, fun i y hy => by
    obtain ⟨c, hc, k⟩ := x.has i y hy
    refine ⟨c, hc, fun v hv => ?_⟩
    obtain ⟨o, u, e1, e2, r⟩ := k v hv
    exact ⟨u, r, o, (ok c _ e1).1, e2⟩⟩
/-- a function value: what a call of it promises -/
structure Cal (P : Program) (w : World) (K : PySem.W.Frag) (mg : Str → Option Value) (base : Heap) (k : Nat) (f : Addr) (n : Nat) (sp : Sp) : Prop where
  run : ∀ (A : Around) (outer : List Env) (s : Shared) (H : Hp) (us : List Value) (vs : List V) (Q : VK) (E : XK), Room k A → Env0 P w K mg base A outer s H → vs.length = n → Vals vs us → sp vs H Q E →
    codeAny (model P w) A (.call (.ref f) ⟨us, []⟩) (CR (L2.CX P w) outer P w H s Q E) s
theorem Cal.mono {j k n : Nat} {f : Addr} {sp : Sp} (c : Cal P w K mg base j f n sp) (h : j ≤ k) : Cal P w K mg base k f n sp := ⟨fun A outer s H us vs Q E r => c.run A outer s H us vs Q E (r.mono h)⟩
theorem Cal.imp {k n : Nat} {f : Addr} {sp sp' : Sp} (c : Cal P w K mg base k f n sp) (h : ∀ vs H Q E, sp' vs H Q E → sp vs H Q E) : Cal P w K mg base k f n sp' :=
  ⟨fun A outer s H us vs Q E r e hl hv q => c.run A outer s H us vs Q E r e hl hv (h _ _ _ _ q)⟩
theorem cr_put {cs : List Addr} {A : Around} {outer : List Env} {s s' : Shared} {Q : VK} {E : XK} {r : Result} (e0 : Env0 P w K mg base A outer s H) (c : Celled cs H)
    (h : CR (L2.CX P w) outer P w (rm cs H) s (putQ cs H Q) (putE cs H E) r s') : CR (L2.CX P w) outer P w H s Q E r s' := by
  cases r with
  | error e => exact cx_put e0 c h
  | ok fl =>
    cases fl with
    | ret u => exact ce_put e0 c h
    | next => exact h
    | brk => exact h
    | cont => exact h
/-- a nested def's promise, of its value -/
def spN (f : Addr) (F : NF) (fr : List Str) (sp : List (Option V) → Sp) : Sp := fun vs H Q E => ∃ ws, H f = some (FnO f F) ∧ H F.c = some (CodeO F.c F.qual) ∧ Cap F.cl fr ws H ∧ f ∉ adr F.cl ∧ F.c ∉ adr F.cl ∧
  sp ws vs (rm (adr F.cl) H) (putQ (adr F.cl) H Q) (putE (adr F.cl) H E)
theorem nok_cal {k : Nat} {f : Addr} {F : NF} {ps fr : List Str} {sp : List (Option V) → Sp} (N : NOk P w K mg base (L2.CX P w) k f F ps fr sp) : Cal P w K mg base k f ps.length (spN f F fr sp) := by
  refine ⟨fun A outer s H us vs Q E hr e0 hl hv ⟨ws, hf, hc, cap, nf, nc, hsp⟩ => ?_⟩
  exact codeAny_mono (N.run A outer s (rm (adr F.cl) H) us vs ws _ _ hr (env0_rm e0 cap.celled) (by rw [rm_off nf]; exact hf) (by rw [rm_off nc]; exact hc) (cap.cells e0.hok) hv hsp) fun r s' q => cr_put e0 cap.celled q
/-! ### lambdas -/
/-- a code object that knows its table -/
def CodX (c T : Addr) (q : Str) : HO := .ext fun h => PySem.W.CodeHd h c T ∧ h.CodeRec (.ref c) q
/-- a lambda's object -/
def LmO (f : Addr) (F : NF) (ps : Arguments) (b : Expr) : HO := .ext fun h => ∃ pm ctv : Value, h.get? f = some (PySem.W.kla_obj F.name F.qual ps b F.scope F.cl pm F.c ctv)
theorem lmO_at {f : Addr} {F : NF} {ps : Arguments} {b : Expr} (ok : HOk P w H h) (e : H f = some (LmO f F ps b)) : ∃ pm ctv : Value, h.get? f = some (PySem.W.kla_obj F.name F.qual ps b F.scope F.cl pm F.c ctv) := (ok f _ e).1
theorem codX_at {c T : Addr} {q : Str} (ok : HOk P w H h) (e : H c = some (CodX c T q)) : PySem.W.CodeHd h c T ∧ h.CodeRec (.ref c) q := (ok c _ e).1
theorem codX_ok {c T : Addr} {q : Str} {H : Hp} (e1 : PySem.W.CodeHd h c T) (e2 : h.CodeRec (.ref c) q) : ObjOk P w H h c (CodX c T q) := by
  obtain ⟨o, us, file, tf, flags, tg, inF, text, tt, q1, r⟩ := e1
  refine ⟨⟨⟨o, us, file, tf, flags, tg, inF, text, tt, q1, r⟩, e2⟩, ⟨o, q1⟩, fun h1 h2 x st => ?_⟩
  obtain ⟨⟨o', us', a1, a2, a3, a4, a5, a6, a7, z1, z2⟩, ⟨c2, oc, vs, t, e, z3, z4⟩⟩ := x
  cases e
  exact ⟨⟨o', us', a1, a2, a3, a4, a5, a6, a7, st _ z1, z2⟩, ⟨c, oc, vs, t, rfl, st _ z3, z4⟩⟩
/-- a lambda's promise -/
def spL (f : Addr) (F : NF) (prm : Arguments) (b : Expr) (fr : List Str) (sp : List (Option V) → Sp) : Sp := fun vs H Q E => ∃ ws T, H f = some (LmO f F prm b) ∧ H F.c = some (CodX F.c T F.qual) ∧ Cap F.cl fr ws H ∧
  sp ws vs (rm (adr F.cl) H) (putQ (adr F.cl) H Q) (putE (adr F.cl) H E)
theorem lam_cal {k : Nat} {f : Addr} {F : NF} {N ps fr : List Str} {prm : Arguments} {b : Expr} {sp : List (Option V) → Sp} (S : NScope N ps fr F.scope)
    (hb : ∀ (pm ctv : Value) (us : List Value), us.length = ps.length → bindArgs (PySem.W.kla_fn F.name F.qual prm b F.scope F.cl pm (.ref F.c) ctv) ⟨us, []⟩ = pure (ps.zip us))
    (hbody : ∀ (A : Around) (outer : List Env) (s : Shared) (H : Hp) (vs : List V) (ws : List (Option V)) (Q : VK) (E : XK), Room k (A.deeper (envF F f s.heap.objs.size)) → ws.length = fr.length → vs.length = ps.length → sp ws vs H Q E →
      ∃ t, PE (ncx (L2.CX P w) P w K mg base N F f A outer s H E) b t ∧ t (startF N vs ws) H Q) :
    Cal P w K mg base (k + 1) f ps.length (spL f F prm b fr sp) := by
  refine ⟨fun A outer s H us vs Q E hr e0 hl hv ⟨ws, T, hf, hc, cap, hsp⟩ => ?_⟩
  have e1 := env0_rm e0 cap.celled
  have C := cap.cells e0.hok
  obtain ⟨pm, ctv, ho⟩ := lmO_at e0.hok hf
  refine codeAny_mono (R := CR (L2.CX P w) outer P w (rm (adr F.cl) H) s (putQ (adr F.cl) H Q) (putE (adr F.cl) H E)) ?_ fun r s' q => cr_put e0 cap.celled q
  have lim : s.heap.NoLimit := e0.mod.nolimit.keeps fun b o e => (e0.bs b o e).1
  refine PySem.W.kla_callFunE hr.depth ho rfl S.co S.gen rfl (codX_at e0.hok hc).2 ?_
  rw [hb pm ctv us (by rw [← hv.length]; exact hl)]
  refine wpAny_pure (wpAny_newFunctionEnv S.nocell (fun ⟨n, _⟩ hy => S.par n (List.of_mem_zip hy).1) (fun h₁ hns hsb => ⟨lim.fresh _ hsb, ?_⟩) S.kind)
  have kp : ∀ b o, s.heap.get? b = some o → h₁.get? b = some o := fun b o e => hsb.extBut b o (Nat.ne_of_lt (Heap.lt_size e)) (Heap.get?_push_of_some _ e)
  obtain ⟨t, ht, hq⟩ := hbody A outer s (rm (adr F.cl) H) vs ws _ _ (hr.deeper _) cap.len hl hsp
  have I := inv_startN (CX := L2.CX P w) (f := f) (E := putE (adr F.cl) H E) (tk := s.toks + (ps.zip us).length) S hr.hd e1 hl hv C hns kp
  refine PySem.W.kla_codeExpr (wpAny_mono (ht.run [] _ (startF N vs ws) _ _ I hq) (fun v s' q => ?_) fun e s' q => q)
  obtain ⟨x, H', J, rv, q⟩ := q
  exact ⟨x, H', J.os, J.bare, J.base, J.hok, rv, q⟩
end
/-! ### calling values -/
/-- there stands a function -/
def IsFn (f : Addr) (H : Hp) : Prop := ∃ φ, H f = some (.ext φ) ∧ ∀ h, φ h → PySem.W.FnAt f h
theorem isFn_def {f : Addr} {F : NF} {H : Hp} (e : H f = some (FnO f F)) : IsFn f H := ⟨_, e, fun h ⟨od, sl, doc, pm, ctv, z⟩ => ⟨_, od, _, sl, z⟩⟩
theorem isFn_lam {f : Addr} {F : NF} {ps : Arguments} {b : Expr} {H : Hp} (e : H f = some (LmO f F ps b)) : IsFn f H := ⟨_, e, fun h ⟨pm, ctv, z⟩ => ⟨_, _, _, _, z⟩⟩
section
variable {X : Cx} {k i n : Nat} {x m : Str} {p pos apos : Pos} {e o : Expr} {es : List Expr} {t : TA} {E : XK} {ta : TE}
theorem run_cal {pins : List (Addr × Obj)} {σ : L2.St} {H : Hp} {s : Shared} {Q : VK} {f : Addr} {sp : Sp} {us : List Value} {vs : List V} (c : Cal X.prog X.w X.K X.mg X.base k f n sp) (hr : Room k X.A) (hx : Passes (L2.CX X.prog X.w) X E) (I : Inv X pins σ H s) (hl : vs.length = n) (r : Vals vs us)
    (q : sp vs H Q E) : wpAny (model X.prog X.w) X.A (call (.ref f) us) (EP X pins σ Q) X.xe s := by
  refine wpAny_call (codeAny_mono (c.run X.A X.stack s H us vs Q E hr I.env0 hl r q) fun r s' hq => ?_)
  cases r with
  | error e => exact hx pins σ H s e s' I hq
  | ok fl =>
    cases fl with
    | ret u => exact I.after hq
    | next => exact False.elim hq
    | brk => exact False.elim hq
    | cont => exact False.elim hq
/-- x(), x(e, ..): the slot i holds a function -/
def tCallV (P : Program) (w : World) (K : PySem.W.Frag) (mg : Str → Option Value) (base : Heap) (k i : Nat) (E : XK) (t : TA) : TE := fun σ H Q => ∃ f, σ[i]? = some (some (.ref f)) ∧ IsFn f H ∧
  t σ H fun vs H1 => IsFn f H1 ∧ ∃ sp, Cal P w K mg base k f vs.length sp ∧ sp vs H1 Q E
theorem fnAt_is {pins : List (Addr × Obj)} {σ : L2.St} {H : Hp} {s : Shared} {f : Addr} (I : Inv X pins σ H s) (h : IsFn f H) : PySem.W.FnAt f s.heap := by
  obtain ⟨φ, e, k⟩ := h
  exact k _ (I.hok f _ e).1
theorem pe_callV (hr : Room k X.A) (hx : Passes (L2.CX X.prog X.w) X E) (hN : X.N[i]? = some x) (hv : Vis X.env.scope x) (ha : PA X (e :: es) t) (hd : (x == ("__debug__" : Str)) = false := by decide) (hcd : (x == ("__classdict__" : Str)) = false := by decide)
    (he : starEach (e :: es) X.env = (false, eval e X.env) :: starEach es X.env := by rfl) (hpl : (backTo pos (starEach es X.env)).any (·.1) = false := by rfl) :
    PE X (.Call (.Name x p) (e :: es) [] pos) (tCallV X.prog X.w X.K X.mg X.base k i E t) := by
  refine ⟨fun pins s σ H Q I ⟨f, hs, hf, ht⟩ => ?_⟩
  refine wpAny_Call_Name_kw (thn ((pe_var (pos := p) hN hv hd hcd).run pins s σ H (fun v H1 => v = .ref f ∧ H1 = H) I ⟨.ref f, hs, rfl, rfl⟩) fun u s1 ⟨v, H1, I1, r1, ev, eH⟩ => ?_)
  subst ev
  subst eH
  obtain rfl : u = Value.ref f := r1
  exact PySem.W.callWith_F (first := []) (fnAt_is I1 hf) (thn (ha.run pos pins s1 σ _ _ I1 ht) fun us s2 ⟨vs, H2, I2, r, h1, sp, c, q⟩ => ⟨fnAt_is I2 h1, run_cal c hr hx I2 rfl r q⟩) he hpl
theorem pe_callV0 (hr : Room k X.A) (hx : Passes (L2.CX X.prog X.w) X E) (hN : X.N[i]? = some x) (hv : Vis X.env.scope x) (hd : (x == ("__debug__" : Str)) = false := by decide) (hcd : (x == ("__classdict__" : Str)) = false := by decide) :
    PE X (.Call (.Name x p) [] [] pos) (tCallV X.prog X.w X.K X.mg X.base k i E tNil) := by
  refine ⟨fun pins s σ H Q I ⟨f, hs, hf, h1, sp, c, q⟩ => ?_⟩
  refine wpAny_Call_Name_kw (thn ((pe_var (pos := p) hN hv hd hcd).run pins s σ H (fun v H1 => v = .ref f ∧ H1 = H) I ⟨.ref f, hs, rfl, rfl⟩) fun u s1 ⟨v, H1, I1, r1, ev, eH⟩ => ?_)
  subst ev
  subst eH
  obtain rfl : u = Value.ref f := r1
  exact PySem.W.callWith_F0 (first := []) (fnAt_is I1 hf) (run_cal (us := []) c hr hx I1 rfl .nil q)
/-- o.m(e, ..): the instance's own field m holds a function -/
def tCallF (P : Program) (w : World) (K : PySem.W.Frag) (mg : Str → Option Value) (base : Heap) (k : Nat) (m : Str) (E : XK) (ta : TE) (t : TA) : TE := fun σ H Q => ta σ H fun y H1 => ∃ a C dx fs f, y = .ref a ∧ H1 a = some (.ins C dx fs) ∧ Cls K C ∧ NoAttr K C m ∧ fs.lookup m = some (.ref f) ∧ IsFn f H1 ∧
  t σ H1 fun vs H2 => IsFn f H2 ∧ ∃ sp, Cal P w K mg base k f vs.length sp ∧ sp vs H2 Q E
theorem pe_callF {pl : Sem Bool} (ho : PE X o ta) (hr : Room k X.A) (hx : Passes (L2.CX X.prog X.w) X E) (ha : PA X (e :: es) t)
    (he : starEach (e :: es) X.env = (false, eval e X.env) :: starEach es X.env := by rfl) (hpl : (backTo pos (starEach es X.env)).any (·.1) = false := by rfl)
    (ht : eval (.Call (.Attribute o m apos) (e :: es) [] pos) X.env = (do
      let ov ← eval o X.env
      standAt apos.atName
      let (f, first) ← holding [ov] (getMethod ov m pl)
      callWith pos f first (backTo pos (starEach (e :: es) X.env)) (backToKw pos (keywordEach [] X.env))) := by rfl) :
    PE X (.Call (.Attribute o m apos) (e :: es) [] pos) (tCallF X.prog X.w X.K X.mg X.base k m E ta t) := by
  refine ⟨fun pins s σ H Q I h => ?_⟩
  refine PySem.W.methodCall_KW (pl := pl) (thn (ho.run pins s σ H _ I h) fun u s1 ⟨y, H1, I1, rx, a, C, dx, fs, f, ey, ea, c, n, l, hf, q⟩ => ?_) ht
  subst ey
  obtain rfl : u = Value.ref a := rx
  obtain ⟨mA, O, _⟩ := ins_get I1.hok ea
  obtain ⟨od, J, hl⟩ := O.look
  refine PySem.W.method_usual I1.kIn J (PySem.W.plainGet_of (c.get m)).1 (PySem.W.plainGet_of (c.get m)).2 n rfl (getattr_ok I1 ea c n l fun u' s2 I2 ru => ?_)
  obtain rfl : u' = Value.ref f := ru
  exact PySem.W.callWith_F (first := []) (fnAt_is I2 hf) (thn (ha.run pos pins s2 σ H1 _ I2 q) fun us s3 ⟨vs, H2, I3, r, h1, sp, cc, q3⟩ => ⟨fnAt_is I3 h1, run_cal cc hr hx I3 rfl r q3⟩) he hpl
end
end PD
set_option Elab.async false
set_option linter.all false
set_option maxRecDepth 100000
set_option maxHeartbeats 4000000
/-! PdLam: lambdas made (their code objects in tables); calls with the frame's cells tracked -/
namespace PD
open PySem PySem.Spec PyProof.Rows L2 NdefX LamX
/-! ### the tables -/
/-- the table at T: its code objects have the first name; their own tables are such of the names behind, and none of Z -/
def TabX (Z : List Addr) (H : Hp) : List Str → Addr → Prop
  | [], _ => True
  | q :: qs, T => ∃ ps : Array Value, H T = some (.tbl ps) ∧ TriplesOk ps.toList ∧ ∀ (pos : Pos) (cv : Value), codeAmong pos ps.toList = some cv → ∃ c T', cv = .ref c ∧ H c = some (CodX c T' q) ∧ T' ∉ Z ∧ (qs ≠ [] → ∃ ps', H T' = some (.tbl ps')) ∧ TabX Z H qs T'
theorem TabX.nil {Z : List Addr} {H : Hp} {T : Addr} {qs : List Str} (h : H T = some (.tbl #[])) : TabX Z H qs T := by
  cases qs with
  | nil => trivial
  | cons q qs => exact ⟨#[], h, trivial, fun pos cv hc => by
      have z : codeAmong pos [] = some cv := hc
      simp [codeAmong] at z⟩
theorem TabX.at_ {Z : List Addr} {H : Hp} {T : Addr} {q : Str} {qs : List Str} (h : TabX Z H (q :: qs) T) : ∃ ps, H T = some (.tbl ps) := let ⟨ps, e, _⟩ := h; ⟨ps, e⟩
theorem TabX.up {Z : List Addr} {H H' : Hp} (e : ∀ a o, H a = some o → H' a = some o) : ∀ (qs : List Str) (T : Addr), TabX Z H qs T → TabX Z H' qs T
  | [], _, _ => trivial
  | q :: qs, T, ⟨ps, h1, h2, h3⟩ => ⟨ps, e _ _ h1, h2, fun pos cv hc => by
    obtain ⟨c, T', a1, a2, a3, a4, a5⟩ := h3 pos cv hc
    exact ⟨c, T', a1, e _ _ a2, a3, fun n => let ⟨p, x⟩ := a4 n; ⟨p, e _ _ x⟩, TabX.up e qs T' a5⟩⟩
theorem codX_ne {c T : Addr} {q : Str} (ps : Array Value) : CodX c T q ≠ .tbl ps := fun z => by
  unfold CodX at z
  cases z
/-- the table at T0, one of Z, has changed alone -/
theorem TabX.but {Z : List Addr} {H H' : Hp} {T0 : Addr} (hZ : T0 ∈ Z) (e : ∀ a o, a ≠ T0 → H a = some o → H' a = some o) (h0 : ∃ ps, H T0 = some (.tbl ps)) : ∀ (qs : List Str) (T : Addr), T ≠ T0 → TabX Z H qs T → TabX Z H' qs T
  | [], _, _, _ => trivial
  | q :: qs, T, n, ⟨ps, h1, h2, h3⟩ => ⟨ps, e _ _ n h1, h2, fun pos cv hc => by
    obtain ⟨p0, e0⟩ := h0
    obtain ⟨c, T', a1, a2, a3, a4, a5⟩ := h3 pos cv hc
    have n2 : T' ≠ T0 := fun z => a3 (z ▸ hZ)
    exact ⟨c, T', a1, e _ _ (fun z => codX_ne p0 (Option.some.inj ((z ▸ a2).symm.trans e0))) a2, a3, fun n => let ⟨p, x⟩ := a4 n; ⟨p, e _ _ n2 x⟩, TabX.but hZ e ⟨p0, e0⟩ qs T' n2 a5⟩⟩
/-- the table at T1, none of Z, has changed alone and is good -/
theorem TabX.but2 {Z : List Addr} {H H' : Hp} {T T1 : Addr} {q r : Str} (n : T ≠ T1) (e : ∀ a o, a ≠ T1 → H a = some o → H' a = some o) (h1 : TabX Z H' [r] T1) (h0 : ∃ ps, H T1 = some (.tbl ps)) (x : TabX Z H [q, r] T) : TabX Z H' [q, r] T := by
  obtain ⟨ps, a1, a2, a3⟩ := x
  obtain ⟨p0, e0⟩ := h0
  have nc : ∀ {c T' q}, H c = some (CodX c T' q) → H' c = some (CodX c T' q) := fun {c T' q} h => e _ _ (fun z => codX_ne p0 (Option.some.inj ((z ▸ h).symm.trans e0))) h
  refine ⟨ps, e _ _ n a1, a2, fun pos cv hc => ?_⟩
  obtain ⟨c, T', b1, b2, b3, b4, b5⟩ := a3 pos cv hc
  by_cases z : T' = T1
  · subst z
    exact ⟨c, T', b1, nc b2, b3, fun _ => h1.at_, h1⟩
  · refine ⟨c, T', b1, nc b2, b3, fun n => let ⟨p, x⟩ := b4 n; ⟨p, e _ _ z x⟩, ?_⟩
    obtain ⟨ps2, d1, d2, d3⟩ := b5
    refine ⟨ps2, e _ _ z d1, d2, fun pos cv hc => ?_⟩
    obtain ⟨c2, T2, f1, f2, f3, f4, f5⟩ := d3 pos cv hc
    exact ⟨c2, T2, f1, nc f2, f3, fun n => absurd rfl n, trivial⟩
theorem TabX.but1 {Z : List Addr} {H H' : Hp} {T T1 : Addr} {q : Str} (n : T ≠ T1) (e : ∀ a o, a ≠ T1 → H a = some o → H' a = some o) (h0 : ∃ ps, H T1 = some (.tbl ps)) (x : TabX Z H [q] T) : TabX Z H' [q] T := by
  obtain ⟨ps, a1, a2, a3⟩ := x
  obtain ⟨p0, e0⟩ := h0
  refine ⟨ps, e _ _ n a1, a2, fun pos cv hc => ?_⟩
  obtain ⟨c, T', b1, b2, b3, b4, b5⟩ := a3 pos cv hc
  exact ⟨c, T', b1, e _ _ (fun z => codX_ne p0 (Option.some.inj ((z ▸ b2).symm.trans e0))) b2, b3, fun n => absurd rfl n, trivial⟩
section
variable {X : Cx} {pins : List (Addr × Obj)} {σ : L2.St} {H : Hp} {s : Shared}
/-- what the making of a function asks of the maker's code object at c, its table at T -/
structure MkB (X : Cx) (h : Heap) (c T : Addr) : Prop where
  code : PySem.W.CodeHd h c T
  bm : h.BuiltinsAt X.mg T
  gT : mainGlobals ≠ T
theorem mkB_base {c T : Addr} (I : Inv X pins σ H s) (B : TabB X.base X.mg c T) : MkB X s.heap c T := ⟨B.code.keeps I.bk, B.bm.keeps I.bk, B.gP⟩
/-- .. of a code object that the run made; B: another that stands in the base -/
theorem mkB_run {c0 T0 c T : Addr} {q : Str} {ps : Array Value} (I : Inv X pins σ H s) (B : TabB X.base X.mg c0 T0) (hc : H c = some (CodX c T q)) (hT : H T = some (.tbl ps)) : MkB X s.heap c T := by
  have nb : ∀ b, (∃ o, X.base.get? b = some o) → b ≠ T := fun b ⟨o, e⟩ z => by
    have q := (I.bs b o e).2
    rw [z, hT] at q
    cases q
  refine ⟨(codX_at I.hok hc).1, ?_, ?_⟩
  · obtain ⟨bm, ob, b1, b2, b3, b4, b5, r⟩ := B.bm
    exact ⟨bm, ob, b1, b2, b3, nb bm ⟨ob, b5⟩, I.bk _ _ b5, r⟩
  · obtain ⟨o, es, ep, e, _⟩ := I.mod.glob
    exact nb _ ⟨o, e⟩
/-- the code object's making -/
theorem inv_code {P c T : Addr} {q : Str} {ps more : Array Value} {h' : Heap} {t' : Nat} (I : Inv X pins σ H s) (hP : H P = some (.tbl ps)) (k : ∀ b o, b ≠ P → s.heap.get? b = some o → h'.get? b = some o)
    (hm : h'.get? P = some { cls := .none, data := .fields (ps ++ more) }) (hc : s.heap.objs.size ≤ c) (hT : s.heap.objs.size ≤ T) (cT : c ≠ T) (e1 : PySem.W.CodeHd h' c T) (e2 : h'.CodeRec (.ref c) q) (e3 : h'.get? T = some { cls := .none, data := .fields #[] }) :
    Inv X pins σ (upd (upd (upd H P (.tbl (ps ++ more))) c (CodX c T q)) T (.tbl #[])) { s with heap := h', toks := t' } := by
  have nC : H c = none := I.hok.fresh hc
  have nT : H T = none := I.hok.fresh hT
  have PT : P ≠ T := ne_of_none hP nT
  have Pc : P ≠ c := ne_of_none hP nC
  have lt : ∀ b o, s.heap.get? b = some o → b ≠ c ∧ b ≠ T := fun b o e => by
    have hb := Heap.lt_size e
    exact ⟨fun z => absurd (Nat.lt_of_lt_of_le hb (z ▸ hc)) (Nat.lt_irrefl _), fun z => absurd (Nat.lt_of_lt_of_le hb (z ▸ hT)) (Nat.lt_irrefl _)⟩
  generalize hH : upd (upd (upd H P (.tbl (ps ++ more))) c (CodX c T q)) T (.tbl #[]) = H3
  have aT : H3 T = some (.tbl #[]) := by rw [← hH, upd_same]
  have ac : H3 c = some (CodX c T q) := by rw [← hH, upd_ne cT, upd_same]
  have aP : H3 P = some (.tbl (ps ++ more)) := by rw [← hH, upd_ne PT, upd_ne Pc, upd_same]
  have off : ∀ b, b ≠ P → b ≠ c → b ≠ T → H3 b = H b := fun b h1 h2 h3 => by rw [← hH, upd_ne h3, upd_ne h2, upd_ne h1]
  have some_off : ∀ b u, H b = some u → b ≠ c ∧ b ≠ T := fun b u e => ⟨ne_of_none e nC, ne_of_none e nT⟩
  have ntb : ∀ b u, H b = some u → (∀ z, u ≠ .tbl z) → H3 b = some u := fun b u e z => by
    have hb : b ≠ P := fun y => by
      rw [y, hP] at e
      exact z _ (Option.some.inj e).symm
    rw [off b hb (some_off b u e).1 (some_off b u e).2]
    exact e
  have noP : ∀ b, H b = none → b ≠ P := fun b n z => by rw [z, hP] at n; cases n
  refine I.un ⟨fun b o e n _ _ => k b o (noP b n) e, fun b o e n _ _ => ⟨o.slots, k b o (noP b n) e⟩, fun b o e n _ => ?_, fun b o e _ => ?_, fun b xs e => ntb b _ e (fun z y => nomatch y), fun b o u e => ntb b _ e (fun z y => nomatch y), fun b qs e => ?_⟩ fun b u e => ?_
  · rw [off b (noP b n) (lt b o e).1 (lt b o e).2]; exact n
  · by_cases hb : b = P
    · subst hb; exact ⟨_, hm⟩
    · exact ⟨o, k b o hb e⟩
  · by_cases hb : b = P
    · subst hb
      rw [hP] at e
      cases e
      exact ⟨more, aP⟩
    · exact ⟨#[], by rw [off b hb (some_off b _ e).1 (some_off b _ e).2, Array.append_empty]; exact e⟩
  · by_cases h1 : b = T
    · subst h1
      rw [aT] at e
      cases e
      exact e3
    · by_cases h2 : b = c
      · subst h2
        rw [ac] at e
        cases e
        exact codX_ok e1 e2
      · by_cases h3 : b = P
        · subst h3
          rw [aP] at e
          cases e
          exact hm
        · rw [off b h3 h2 h1] at e
          refine (I.hok b u e).stay (fun d v hd y => k d v (fun z => ?_) y) (fun d y => ntb d _ y fun z w => nomatch w) fun d xs y => ntb d _ y fun z w => nomatch w
          rcases hd with hd | hd
          · exact h3 (hd.symm.trans z)
          · rw [z, hP] at hd; cases hd
theorem lmO_ok {P : Program} {w : World} {h : Heap} {f : Addr} {F : NF} {prm : Arguments} {b : Expr} {pm ctv : Value} {H : Hp} (e : h.get? f = some (PySem.W.kla_obj F.name F.qual prm b F.scope F.cl pm F.c ctv)) : ObjOk P w H h f (LmO f F prm b) :=
  ⟨⟨pm, ctv, e⟩, ⟨_, e⟩, fun h1 h2 ⟨pm, ctv, z⟩ st => ⟨pm, ctv, st _ z⟩⟩
end
section
variable {M : Model} {A : Around} {E : Value → Shared → Prop} {s : Shared} {name qual : Str} {prm : Arguments} {body : Expr} {scope : Scope} {env : Env} {c T : Addr} {ps : Array Value} {pos : Pos} {ln : Nat} {mg : Str → Option Value} {cl : List (Str × Addr)} {Q : Value → Shared → Prop}
/-- the tuple of the captured cells -/
theorem clo_tuple {α : Type} {k : Value → Sem α} {Q : α → Shared → Prop} (h : ∀ (ctv : Value) (h' : Heap), (∀ b o, s.heap.get? b = some o → h'.get? b = some o) → s.heap.objs.size ≤ h'.objs.size → wpAny M A (k ctv) Q E { s with heap := h' }) :
    wpAny M A (if cl.isEmpty = true then (do let t ← pure .none; k t) else (do let t ← newTextTuple ((cl.mergeSort fun a b => a.1.cps.toList ≤ b.1.cps.toList).map (.ref ·.2)); k t)) Q E s := by
  by_cases z : cl.isEmpty = true
  · rw [if_pos z]; exact wpAny_bind (wpAny_pure (h _ s.heap (fun _ _ e => e) (Nat.le_refl _)))
  · rw [if_neg z]; exact wpAny_bind (wpAny_newTextTuple (h _ _ (fun b o e => Heap.get?_push_of_some _ e) (by rw [Heap.size_push]; omega)))
theorem lam_tail (hcl : closureFor scope env = pure cl) (g0 : env.globals = mainGlobals) (hg : s.heap.Ns mainGlobals mg) (hcode : env.code = .ref c) (C : PySem.W.CodeHd s.heap c T) (hT : s.heap.get? T = some (PySem.W.tabObj ps)) (ht : TriplesOk ps.toList)
    (gT : mainGlobals ≠ T) (hb : s.heap.BuiltinsAt mg T)
    (new : codeAmong pos ps.toList = none → ∀ (c' T' : Addr) (ctv : Value) (h' : Heap) (tk : Tok), (∀ b o, b ≠ T → s.heap.get? b = some o → h'.get? b = some o) → s.heap.objs.size ≤ c' → c' < h'.objs.size → s.heap.objs.size ≤ T' → c' ≠ T' → PySem.W.CodeHd h' c' T' → h'.CodeRec (.ref c') qual →
      h'.get? T' = some (PySem.W.tabObj #[]) → h'.get? T = some (PySem.W.tabObj (ps ++ #[rawInt pos.line, rawInt pos.col, .ref c'])) → Q (.ref h'.objs.size) { s with heap := h'.push (PySem.W.kla_obj name qual prm body scope cl ((mg "__name__").getD .none) c' ctv), toks := tk })
    (hit : ∀ c', codeAmong pos ps.toList = some (.ref c') → ∀ (ctv : Value) (h' : Heap) (tk : Tok), (∀ b o, s.heap.get? b = some o → h'.get? b = some o) → s.heap.objs.size ≤ h'.objs.size → Q (.ref h'.objs.size) { s with heap := h'.push (PySem.W.kla_obj name qual prm body scope cl ((mg "__name__").getD .none) c' ctv), toks := tk })
    (hv : ∀ cv, codeAmong pos ps.toList = some cv → ∃ c', cv = .ref c') : wpAny M A (makeTail name qual prm (.expr body) scope env .none .none none pos ln) Q E s := by
  obtain ⟨bm, ob, b1, b2, _, b4, b5, b6, b7, b8⟩ := hb
  unfold makeTail
  rw [hcl, g0]
  refine wpAny_bind (wpAny_pure ?_)
  refine clo_tuple fun ctv h1 k1 z1 => ?_
  have gz := hg.keeps k1
  have C1 := C.keeps k1
  have T1 := k1 _ _ hT
  cases e : codeAmong pos ps.toList with
  | none =>
    refine wpAny_bind (wpAny_functionCodeX hcode (C1.code T1 ht) (C1.tab T1) e fun c' h' tk hx hge hlt _ hrec htb ⟨T', a1, a2, a3⟩ => ?_)
    have gz2 := gz.extBut hx gT
    refine wpAny_bind (wpAny_builtinsFor gz2 b1 b2 (hx _ _ b4 (k1 _ _ b5)) b6 b7 b8 ?_)
    refine wpAny_bind (wpAny_nsGet gz2 ?_)
    have hh := PySem.W.CodeHd.of a2 a3
    have ne : c' ≠ T' := by
      obtain ⟨o, us, file, tf, flags, tg, inF, text, tt, r⟩ := hh
      exact r.2.2.2.2.2.2.2.2.2
    exact wpAny_bind (wpAny_pure (wpAny_newObj_type (new e c' T' ctv h' tk (fun b o hb q => hx b o hb (k1 b o q)) (Nat.le_trans z1 hge) hlt (Nat.le_trans z1 a1) ne hh hrec a3.2 htb.2) (by size_fits)))
  | some cv =>
    obtain ⟨c', rfl⟩ := hv cv e
    refine wpAny_bind (wpAny_functionCode_hit hcode (C1.code T1 ht) e ?_)
    refine wpAny_bind (wpAny_builtinsFor gz b1 b2 (k1 _ _ b5) b6 b7 b8 ?_)
    refine wpAny_bind (wpAny_nsGet gz ?_)
    exact wpAny_bind (wpAny_pure (wpAny_newObj_type (hit c' e ctv h1 s.toks k1 z1) (by size_fits)))
end
section
variable {X : Cx}
abbrev lamF (X : Cx) (scope : Scope) (c' : Addr) : NF := ⟨"<lambda>", X.env.qual ++ "<lambda>", C8.fnArgs (.Pass ⟨0, 0, 0, 0⟩), [], scope, cloFrom X.env.cells scope.names [], c'⟩
/-- what the lambda's making leaves -/
structure LamMade (X : Cx) (Z : List Addr) (T : Addr) (qs : List Str) (scope : Scope) (prm : Arguments) (b : Expr) (H : Hp) (f c' : Addr) (H1 : Hp) : Prop where
  stay : ∀ a o, a ≠ T → H a = some o → H1 a = some o
  dom : ∀ a, H1 a = none → H a = none
  tab : TabX Z H1 ((X.env.qual ++ "<lambda>") :: qs) T
  was : ∃ ps, H T = some (.tbl ps)
  nf : H f = none
  at_ : H1 f = some (LmO f (lamF X scope c') prm b)
  code : ∃ T', H1 c' = some (CodX c' T' (X.env.qual ++ "<lambda>")) ∧ T' ∉ Z ∧ (qs ≠ [] → ∃ ps, H1 T' = some (.tbl ps)) ∧ TabX Z H1 qs T'
/-- the making's reading: W, what must be so -/
def tLamb (X : Cx) (W : Hp → Prop) (Z : List Addr) (T : Addr) (qs : List Str) (scope : Scope) (prm : Arguments) (b : Expr) : TE := fun σ H Q => W H ∧ (∀ z ∈ Z, H z ≠ none) ∧ TabX Z H ((X.env.qual ++ "<lambda>") :: qs) T ∧ (T ∈ Z ∨ qs = []) ∧
  ∀ f c' H1, LamMade X Z T qs scope prm b H f c' H1 → Q (.ref f) H1
theorem upd_no {H : Hp} {a b : Addr} {o : HO} (e : upd H a o b = Option.none) : H b = Option.none := upd_none e
theorem pe_lamb {W : Hp → Prop} {Z : List Addr} {c T : Addr} {qs : List Str} {prm : Arguments} {b : Expr} {scope : Scope} {pos : Pos} (mb : ∀ pins σ H s, Inv X pins σ H s → W H → MkB X s.heap c T) (hcode : X.env.code = .ref c)
    (hfree : ∀ y ∈ scope.names, y.2 = .free → X.env.scope.names.lookup y.1 = some .cell ∨ X.env.scope.names.lookup y.1 = some .free) (hdef : defaultsOf prm X.env = ([], [])) : PE X (.Lambda prm b scope pos) (tLamb X W Z T qs scope prm b) := by
  refine ⟨fun pins s σ H Q I ⟨hW, hZ, hT, hq, k⟩ => ?_⟩
  have B := mb pins σ H s I hW
  obtain ⟨ps, hP, ht, ha⟩ := id hT
  have hfr : ∀ y ∈ scope.names, y.2 = .free → ∃ c, X.env.cells.lookup y.1 = some c := fun y hy e => (hfree y hy e).elim (fun z => I.ok.has _ (.inl z)) fun z => I.ok.has _ (.inr z)
  refine PySem.W.kla_eval hdef ?_
  rw [makeFunction_eq]
  simp only [List.zip_nil_right, List.filterMap_nil, List.isEmpty_nil, if_true, pure_bind]
  refine lam_tail (closure_ok hfr) I.ok.glob (I.mod.glob.keeps I.bk) hcode B.code (I.hok T _ hP) ht B.gT B.bm (fun hn c' T' ctv h' tk hk hge hlt hgT ne e1 e2 e3 e4 => ?_) (fun c' hc ctv h' tk hk hsz => ?_) fun cv hc => ?_
  · have nC : H c' = none := I.hok.fresh hge
    have nT : H T' = none := I.hok.fresh hgT
    have I1 := inv_code (t' := tk) I hP hk e4 hge hgT ne e1 e2 e3
    have nF := I1.hok.fresh (Nat.le_refl _)
    generalize hH : upd (upd (upd H T (.tbl (ps ++ #[rawInt pos.line, rawInt pos.col, .ref c']))) c' (CodX c' T' (X.env.qual ++ "<lambda>"))) T' (.tbl #[]) = H2 at I1 nF
    have TT : T ≠ T' := ne_of_none hP nT
    have Tc : T ≠ c' := ne_of_none hP nC
    have aT' : H2 T' = some (.tbl #[]) := by rw [← hH, upd_same]
    have ac : H2 c' = some (CodX c' T' (X.env.qual ++ "<lambda>")) := by rw [← hH, upd_ne ne, upd_same]
    have aT : H2 T = some (.tbl (ps ++ #[rawInt pos.line, rawInt pos.col, .ref c'])) := by rw [← hH, upd_ne TT, upd_ne Tc, upd_same]
    have st : ∀ a o, a ≠ T → H a = some o → H2 a = some o := fun a o h1 h2 => by
      rw [← hH, upd_ne (ne_of_none h2 nT), upd_ne (ne_of_none h2 nC), upd_ne h1]; exact h2
    have I2 := I1.laid (a := h'.objs.size) (o := LmO h'.objs.size (lamF X scope c') prm b) (t' := tk) (h' := h'.push (PySem.W.kla_obj "<lambda>" (X.env.qual ++ "<lambda>") prm b scope (cloFrom X.env.cells scope.names []) ((X.mg "__name__").getD .none) c' ctv))
      (fun b o e => Heap.get?_push_of_some _ e) (Nat.le_refl _) (lmO_ok (Heap.get?_push_size _ rfl))
    have up : ∀ a o, H2 a = some o → upd H2 h'.objs.size (LmO h'.objs.size (lamF X scope c') prm b) a = some o := fun a o e => by rw [upd_ne (ne_of_none e nF)]; exact e
    have nf0 : H h'.objs.size = none := I.hok.fresh (Nat.le_trans hge (Nat.le_of_lt hlt))
    have tz : T' ∉ Z := fun z => hZ _ z nT
    refine ⟨.ref _, _, I2, rfl, k _ c' _ ⟨fun a o h1 h2 => up _ _ (st a o h1 h2), fun a e => ?_, ?_, ⟨ps, hP⟩, nf0, upd_same, T', up _ _ ac, tz, fun _ => ⟨_, up _ _ aT'⟩, .nil (up _ _ aT')⟩⟩
    · have e := upd_no e
      rw [← hH] at e
      exact upd_no (upd_no (upd_no e))
    · have eL : (ps ++ #[rawInt pos.line, rawInt pos.col, .ref c']).toList = ps.toList ++ [rawInt pos.line, rawInt pos.col, .ref c'] := by simp
      refine ⟨_, up _ _ aT, by rw [eL]; exact PySem.TriplesOk_snoc _ _ _ _ ht, fun p' cv hcv => ?_⟩
      rw [eL] at hcv
      rcases among_app _ ht hcv with z | z
      · obtain ⟨c0, T0, b1, b2, b3, b4, b5⟩ := ha p' cv z
        have h2 : H2 c0 = some (CodX c0 T0 (X.env.qual ++ "<lambda>")) := st _ _ (fun w => codX_ne ps (Option.some.inj ((w ▸ b2).symm.trans hP))) b2
        rcases hq with hq | hq
        · have n0 : T0 ≠ T := fun z => b3 (z ▸ hq)
          exact ⟨c0, T0, b1, up _ _ h2, b3, fun n => let ⟨p, x⟩ := b4 n; ⟨p, up _ _ (st _ _ n0 x)⟩, TabX.up up _ _ (TabX.but hq st ⟨ps, hP⟩ _ _ n0 b5)⟩
        · subst hq
          exact ⟨c0, T0, b1, up _ _ h2, b3, fun n => absurd rfl n, trivial⟩
      · exact ⟨c', T', z, up _ _ ac, tz, fun _ => ⟨_, up _ _ aT'⟩, .nil (up _ _ aT')⟩
  · obtain ⟨c0, T0, b1, b2, b3, b4, b5⟩ := ha pos _ hc
    cases b1
    have I1 : Inv X pins σ H { s with heap := h', toks := tk } := I.kept hk
    have nF : H h'.objs.size = none := I.hok.fresh hsz
    have I2 := I1.laid (a := h'.objs.size) (o := LmO h'.objs.size (lamF X scope c') prm b) (t' := tk) (h' := h'.push (PySem.W.kla_obj "<lambda>" (X.env.qual ++ "<lambda>") prm b scope (cloFrom X.env.cells scope.names []) ((X.mg "__name__").getD .none) c' ctv))
      (fun b o e => Heap.get?_push_of_some _ e) (Nat.le_refl _) (lmO_ok (Heap.get?_push_size _ rfl))
    have up : ∀ a o, H a = some o → upd H h'.objs.size (LmO h'.objs.size (lamF X scope c') prm b) a = some o := fun a o e => by rw [upd_ne (ne_of_none e nF)]; exact e
    exact ⟨.ref _, _, I2, rfl, k _ c' _ ⟨fun a o _ h2 => up _ _ h2, fun a e => upd_no e, TabX.up up _ _ hT, ⟨ps, hP⟩, nF, upd_same, T0, up _ _ b2, b3, fun n => let ⟨p, x⟩ := b4 n; ⟨p, up _ _ x⟩, TabX.up up _ _ b5⟩⟩
  · obtain ⟨c0, T0, b1, _⟩ := ha pos cv hc
    exact ⟨c0, b1⟩
end
end PD
set_option Elab.async false
set_option linter.all false
set_option maxRecDepth 100000
set_option maxHeartbeats 4000000
/-! PdTrk: calls that are handed a function of the running frame: its cells stand tracked meanwhile; calls by keywords alone -/
namespace PD
open PySem PySem.Spec PyProof.Rows L2 NdefX LamX
/-- of a def, all that its callers ask: by places and by the keywords ks (in the order sw of the parameters) -/
structure FnK (P : Program) (w : World) (K : PySem.W.Frag) (mg : Str → Option Value) (base : Heap) (CX : CXT) (x : Str) (k : Nat) (n : Nat) (ks : List Str) (sw : {α : Type} → List α → List α) (sp : Sp) : Prop where
  ex : ∃ (f : Addr) (fd : FuncData) (ps : List Str), mg x = some (.ref f) ∧ PySem.W.keepIn K (.ref f) = true ∧ ps.length = n ∧ Binds K fd ps [] ∧ (∀ (s : Shared) (ws : List Value), ws.length = n → BindsTo s fd ⟨[], ks.zip ws⟩ (ps.zip (sw ws))) ∧
    (∀ {vs : List V} {us : List Value}, Vals vs us → Vals (sw vs) (sw us)) ∧ (∀ ws : List Value, ws.length = n → (sw ws).length = n) ∧ FnOk P w K mg base CX k f fd ps sp
theorem FnK.fn {P : Program} {w : World} {K : PySem.W.Frag} {mg : Str → Option Value} {base : Heap} {CX : CXT} {x : Str} {k n : Nat} {ks : List Str} {sw : {α : Type} → List α → List α} {sp : Sp} (F : FnK P w K mg base CX x k n ks sw sp) : Fn P w K mg base CX x k n sp :=
  let ⟨f, fd, ps, h1, h2, h3, h4, _, _, _, h5⟩ := F.ex; ⟨f, fd, ps, h1, h2, h3, h4, h5⟩
/-- two parameters, told in the other order -/
def swap2 {α : Type} (l : List α) : List α := l.reverse
theorem fnK2 {P : Program} {w : World} {K : PySem.W.Frag} {mg : Str → Option Value} {base : Heap} {CX : CXT} {x a b : Str} {k : Nat} {st : Stmt} {sp : Sp} (D : Df K mg x st)
    (hb : ∀ (kV doc pm : Value) (an : Option Addr) (cdv ct : Value) (us : List Value), us.length = 2 → bindArgs (PySem.W.fnOf x x (defArgs st) (defBody st) (defScope st) .none kV doc pm an cdv ct) ⟨us, []⟩ = pure ([a, b].zip us))
    (hk : ∀ (kV doc pm : Value) (an : Option Addr) (cdv ct : Value) (us : List Value), us.length = 2 → bindArgs (PySem.W.fnOf x x (defArgs st) (defBody st) (defScope st) .none kV doc pm an cdv ct) ⟨[], [b, a].zip us⟩ = pure ([a, b].zip us.reverse))
    (ok : ∀ f fd, Fun K x x st f fd → FnOk P w K mg base CX k f fd [a, b] sp) : FnK P w K mg base CX x k 2 [b, a] (fun l => swap2 l) sp := by
  obtain ⟨f, fd, h1, h2⟩ := D.ex
  refine ⟨f, fd, [a, b], h1, h2.kp, rfl, h2.binds hb, fun s ws hl => ?_, fun {vs us} r => ?_, fun ws hl => by rw [swap2, List.length_reverse]; exact hl, ok f fd h2⟩
  · obtain ⟨oc, od, kV, doc, pm, an, cdv, ct, osl, rfl, _⟩ := h2.ex
    exact BindsTo.of_eq (hk kV doc pm an cdv ct ws hl)
  · unfold swap2
    induction r with
    | nil => exact .nil
    | cons h t ih =>
      rw [List.reverse_cons, List.reverse_cons]
      exact ih.append (.cons h .nil)
section
variable {X : Cx} {CX : CXT} {k : Nat} {cl : List (Str × Addr)} {fr : List Str} {js : List Nat} {sp : Sp} {x : Str} {p pos : Pos} {e : Expr} {es : List Expr} {t tk : TA} {kws : List Keyword} {ks : List Str}
/-- the cells cl are the running frame's own -/
structure Own (X : Cx) (cl : List (Str × Addr)) (fr : List Str) (js : List Nat) : Prop where
  caps : X.Ok → Caps X cl fr js
  mem : X.Ok → ∀ c ∈ adr cl, ∃ y, X.env.cells.lookup y = some c
  fn : ∀ y, X.fn y = true
theorem own_made {scope : Scope} (hfree : ∀ y ∈ scope.names, y.2 = .free → X.env.scope.names.lookup y.1 = some .cell ∨ X.env.scope.names.lookup y.1 = some .free) (hfr : ∀ y ∈ fr, (y, NameKind.free) ∈ scope.names) (hjs : js.map (fun j => X.N[j]?) = fr.map some) (hfn : ∀ y, X.fn y = true) :
    Own X (cloFrom X.env.cells scope.names []) fr js := by
  refine ⟨fun ok => Caps.made ok hfree hfr hjs, fun ok c hc => ?_, hfn⟩
  obtain ⟨⟨y, c'⟩, hm, rfl⟩ := List.mem_map.mp hc
  rcases cloFrom_mem hm with z | ⟨h1, h2⟩
  · cases z
  · obtain ⟨c1, e1⟩ := (hfree _ h1 rfl).elim (fun z => ok.has _ (.inl z)) fun z => ok.has _ (.inr z)
    refine ⟨y, ?_⟩
    have e1 : X.env.cells.lookup y = some c1 := e1
    show X.env.cells.lookup y = some c'
    rw [h2, e1]; rfl
def celT (h : Heap) : Hp := fun c => match h.get? c with
  | some o => some (CelO c o)
  | none => none
theorem celT_at {h : Heap} {c : Addr} {o : Obj} (e : h.get? c = some o) : celT h c = some (CelO c o) := by
  unfold celT
  rw [e]
theorem Own.cellsIn {pins : List (Addr × Obj)} {σ : L2.St} {H : Hp} {s : Shared} (w : Own X cl fr js) (I : Inv X pins σ H s) : CellsIn (adr cl) (celT s.heap) H X.base X.stack s := by
  have lo : ∀ c ∈ adr cl, X.s_0.heap.objs.size ≤ c := fun c hc => let ⟨y, e⟩ := w.mem I.ok c hc; I.ok.cab y c (w.fn y) e
  refine ⟨fun c hc => let ⟨y, e⟩ := w.mem I.ok c hc; I.freeC y c e, fun c hc => ?_, fun c hc => Heap.get?_none_of_le (Nat.le_trans I.ok.bsz (lo c hc)), fun c hc z => ?_⟩
  · obtain ⟨y, e⟩ := w.mem I.ok c hc
    obtain ⟨v, o, ho, _⟩ := I.cell y c e
    exact ⟨o, celT_at ho, ho⟩
  · obtain ⟨y, e⟩ := w.mem I.ok c hc
    rcases List.mem_cons.mp (I.stkSub c z) with q | q
    · exact I.cne y c e q
    · obtain ⟨_, o, ho, _⟩ := I.ok.funs.mem q
      exact absurd (Nat.lt_of_lt_of_le (Heap.lt_size ho) (lo c hc)) (Nat.lt_irrefl _)
theorem Own.cap {pins : List (Addr × Obj)} {σ : L2.St} {H : Hp} {s : Shared} (w : Own X cl fr js) (I : Inv X pins σ H s) : Cap cl fr (js.map (slotAt σ)) (ovr (adr cl) (celT s.heap) H) := by
  have C := cells_of I (w.caps I.ok)
  refine ⟨C.len, fun c hc => ?_, C.inj, fun i y hy => ?_⟩
  · obtain ⟨y, e⟩ := w.mem I.ok c hc
    obtain ⟨v, o, ho, hd⟩ := I.cell y c e
    exact ⟨o, v, by rw [ovr_in hc]; exact celT_at ho, hd⟩
  · obtain ⟨c, hc, hv⟩ := C.has i y hy
    refine ⟨c, hc, fun v ev => ?_⟩
    obtain ⟨u, r, o, ho, hd⟩ := hv v ev
    exact ⟨o, u, by rw [ovr_in (adr_look hc)]; exact celT_at ho, hd, r⟩
/-- what a call so made is asked for: sp over the heap with the cells tracked -/
def trkd (cl : List (Str × Addr)) (fr : List Str) (js : List Nat) (sp : Sp) (σ : L2.St) (vs : List V) (H : Hp) (Q : VK) : Prop :=
  ∀ T : Hp, (∀ c ∈ adr cl, H c = none) → Cap cl fr (js.map (slotAt σ)) (ovr (adr cl) T H) → sp vs (ovr (adr cl) T H) (fun v H3 => (∀ c ∈ adr cl, H3 c = T c) ∧ Q v (rm (adr cl) H3)) fun _ _ _ => False
theorem run_trk {pins : List (Addr × Obj)} {σ : L2.St} {H : Hp} {s : Shared} {Q : VK} {f : Addr} {fd : FuncData} {ps : List Str} {args : Args} {us : List Value} {vs : List V} (w : Own X cl fr js) (F : FnOk X.prog X.w X.K X.mg X.base CX k f fd ps sp) (hr : Room k X.A)
    (hE : ∀ H e s', CX X.stack H s (fun _ _ _ => False) e s' → False) (I : Inv X pins σ H s) (hb : BindsTo s fd args (ps.zip us)) (r : Vals vs us) (q : trkd cl fr js sp σ vs H Q) : codeAny (model X.prog X.w) X.A (.call (.ref f) args) (fun r s' => ∃ u, r = .ok (.ret u) ∧ EP X pins σ Q u s') s := by
  have ci := w.cellsIn I
  refine codeAny_mono (F.run X.A X.stack s _ args us vs _ _ hr (ci.env0 I.env0) hb r (q (celT s.heap) ci.no (w.cap I))) fun r s' h => ?_
  cases r with
  | error e => exact (hE _ e s' h).elim
  | ok fl =>
    cases fl with
    | ret u => exact ⟨u, rfl, I.after (ci.back h)⟩
    | next => exact False.elim h
    | brk => exact False.elim h
    | cont => exact False.elim h
def tCallT (cl : List (Str × Addr)) (fr : List Str) (js : List Nat) (sp : Sp) (t : TA) : TE := fun σ H Q => t σ H fun vs H1 => trkd cl fr js sp σ vs H1 Q
/-- f(.., g, ..): g is a function of this frame -/
theorem pe_fnT {n : Nat} (w : Own X cl fr js) (F : Fn X.prog X.w X.K X.mg X.base CX x k n sp) (hr : Room k X.A) (hE : ∀ s H e s', CX X.stack H s (fun _ _ _ => False) e s' → False) (ha : PA X (e :: es) t) (hn : ∀ vs H Q E, sp vs H Q E → vs.length = n) (hg : Gl X x := by rfl) (hdb : (x == ("__debug__" : Str)) = false := by decide)
    (he : starEach (e :: es) X.env = (false, eval e X.env) :: starEach es X.env := by rfl) (hpl : (backTo pos (starEach es X.env)).any (·.1) = false := by rfl) : PE X (.Call (.Name x p) (e :: es) [] pos) (tCallT cl fr js sp t) := by
  obtain ⟨f, fd, ps, h1, h2, h3, h4, h5⟩ := F.ex
  refine ⟨fun pins s σ H Q I h => ?_⟩
  refine wpAny_Call_Name_kw (ld_glob I hg h1 ?_ hdb)
  refine PySem.W.callWith_K (first := []) (h₀ := X.base) I.ok.mod.kin h2 (thn (ha.run pos pins s σ H _ I h) fun us s2 ⟨vs, H2, I2, r, q⟩ => ⟨I2.kIn, ?_⟩) he hpl
  have ci := w.cellsIn I2
  have hl : us.length = ps.length := by
    rw [← r.length, h3]
    exact hn _ _ _ _ (q (celT s2.heap) ci.no (w.cap I2))
  have hb := h4 s2 us I2.kIn (by rw [List.append_nil]; exact hl)
  rw [List.append_nil] at hb
  refine wpAny_call (codeAny_mono (run_trk w h5 hr (hE s2) I2 hb r q) fun r s' ⟨u, e, z⟩ => ?_)
  subst e
  exact z
/-- f(k = e, ..), by keywords alone -/
def tCallK0 (m : Nat) (sw : {α : Type} → List α → List α) (sp : Sp) (E : XK) (tk : TA) : TE := fun σ H Q => tk σ H fun vs H1 => vs.length = m ∧ sp (sw vs) H1 Q E
def tCallTK (m : Nat) (sw : {α : Type} → List α → List α) (cl : List (Str × Addr)) (fr : List Str) (js : List Nat) (sp : Sp) (tk : TA) : TE := fun σ H Q => tk σ H fun vs H1 => vs.length = m ∧ trkd cl fr js sp σ (sw vs) H1 Q
theorem pe_fnK0 {m : Nat} {sw : {α : Type} → List α → List α} {E : XK} (F : FnK X.prog X.w X.K X.mg X.base CX x k m ks sw sp) (hr : Room k X.A) (hx : Passes CX X E) (hkw : PK X kws tk) (hg : Gl X x := by rfl)
    (hall : (backToKw pos (keywordEach kws X.env)).all (·.1.isSome) = true := by rfl) (hks : (backToKw pos (keywordEach kws X.env)).filterMap (·.1) = ks := by rfl) (hdb : (x == ("__debug__" : Str)) = false := by decide)
    (hpl : ((backTo pos (starEach [] X.env)).any (·.1) || (backToKw pos (keywordEach kws X.env)).any (·.1.isNone)) = false := by rfl) : PE X (.Call (.Name x p) [] kws pos) (tCallK0 m sw sp E tk) := by
  obtain ⟨f, fd, ps, h1, h2, h3, h4, h5, h6, h7, h8⟩ := F.ex
  refine ⟨fun pins s σ H Q I h => ?_⟩
  refine wpAny_Call_Name_kw (ld_glob I hg h1 ?_ hdb)
  refine PySem.W.callWith_KW0 (h₀ := X.base) I.ok.mod.kin h2 hall (thn (hkw.run pos pins s σ H _ I h) fun ws s2 ⟨zs, H2, I2, rz, hl, q⟩ => ⟨I2.kIn, ?_⟩) hpl
  rw [hks]
  have hw : ws.length = m := rz.length.symm.trans hl
  refine wpAny_call (codeAny_mono (h8.run X.A X.stack s2 H2 _ (sw ws) (sw zs) Q E hr I2.env0 (h5 s2 ws hw) (h6 rz) q) fun r s' hq => ?_)
  cases r with
  | error e => exact hx pins σ H2 s2 e s' I2 hq
  | ok fl =>
    cases fl with
    | ret u => exact I2.after hq
    | next => exact False.elim hq
    | brk => exact False.elim hq
    | cont => exact False.elim hq
theorem pe_fnTK {m : Nat} {sw : {α : Type} → List α → List α} (w : Own X cl fr js) (F : FnK X.prog X.w X.K X.mg X.base CX x k m ks sw sp) (hr : Room k X.A) (hE : ∀ s H e s', CX X.stack H s (fun _ _ _ => False) e s' → False) (hkw : PK X kws tk) (hg : Gl X x := by rfl)
    (hall : (backToKw pos (keywordEach kws X.env)).all (·.1.isSome) = true := by rfl) (hks : (backToKw pos (keywordEach kws X.env)).filterMap (·.1) = ks := by rfl) (hdb : (x == ("__debug__" : Str)) = false := by decide)
    (hpl : ((backTo pos (starEach [] X.env)).any (·.1) || (backToKw pos (keywordEach kws X.env)).any (·.1.isNone)) = false := by rfl) : PE X (.Call (.Name x p) [] kws pos) (tCallTK m sw cl fr js sp tk) := by
  obtain ⟨f, fd, ps, h1, h2, h3, h4, h5, h6, h7, h8⟩ := F.ex
  refine ⟨fun pins s σ H Q I h => ?_⟩
  refine wpAny_Call_Name_kw (ld_glob I hg h1 ?_ hdb)
  refine PySem.W.callWith_KW0 (h₀ := X.base) I.ok.mod.kin h2 hall (thn (hkw.run pos pins s σ H _ I h) fun ws s2 ⟨zs, H2, I2, rz, hl, q⟩ => ⟨I2.kIn, ?_⟩) hpl
  rw [hks]
  have hw : ws.length = m := rz.length.symm.trans hl
  refine wpAny_call (codeAny_mono (run_trk w h8 hr (hE s2) I2 (h5 s2 ws hw) (h6 rz) q) fun r s' ⟨u, e, z⟩ => ?_)
  subst e
  exact z
theorem cx_no {P : Program} {w : World} {outer : List Env} {H : Hp} {s s' : Shared} {e : Value} (h : L2.CX P w outer H s (fun _ _ _ => False) e s') : False := by
  obtain ⟨_, _, _, _, _, _, _, _, _, _, _, _, q⟩ := h
  exact q
end
end PD
set_option Elab.async false
set_option linter.all false
set_option maxRecDepth 100000
set_option maxHeartbeats 4000000
/-! PdW: the law's world: a stream that is drawn from, tables of code objects; readings that may draw -/
namespace PD
open PySem PySem.Spec PyProof.Rows L2 NdefX LamX
theorem TabX.up2 {Z : List Addr} {H H' : Hp} (e : ∀ a ps, H a = some (.tbl ps) → H' a = some (.tbl ps)) (ec : ∀ a φ, H a = some (.ext φ) → H' a = some (.ext φ)) : ∀ (qs : List Str) (T : Addr), TabX Z H qs T → TabX Z H' qs T
  | [], _, _ => trivial
  | q :: qs, T, ⟨ps, h1, h2, h3⟩ => ⟨ps, e _ _ h1, h2, fun pos cv hc => by
    obtain ⟨c, T', a1, a2, a3, a4, a5⟩ := h3 pos cv hc
    exact ⟨c, T', a1, ec _ _ a2, a3, fun n => let ⟨p, x⟩ := a4 n; ⟨p, e _ _ x⟩, TabX.up2 e ec qs T' a5⟩⟩
theorem tabsN_up2 {T : List NTab} {H H' : Hp} (e : ∀ a ps, H a = some (.tbl ps) → H' a = some (.tbl ps)) (ec : ∀ a φ, H a = some (.ext φ) → H' a = some (.ext φ)) (t : TabsN T H) : TabsN T H' := fun p hp => by
  obtain ⟨ps, h1, h2, h3⟩ := t p hp
  refine ⟨ps, e _ _ h1, h2, fun pos cv hc => ?_⟩
  obtain ⟨c, e1, e2⟩ := h3 pos cv hc
  exact ⟨c, e1, ec _ _ e2⟩
/-- the tables of the law's makers of functions -/
structure Tb where
  T : List (Addr × List Str)
  TN : List NTab
def Tb.Z (t : Tb) : List Addr := t.T.map (·.1) ++ t.TN.map (·.1)
/-- the stream at st, its cells at ce -/
structure Wl where
  t : Tb
  st : Addr
  ce : Addr
/-- at most n draws so far -/
structure WOk (W : Wl) (n : Nat) (H : Hp) : Prop where
  ne : W.st ≠ W.ce
  str : ∃ (cells : List Int) (pend acc : Int) (cnt : Nat), H W.st = some (.lst [.ref W.ce, .int pend, .int cnt, .int acc]) ∧ H W.ce = some (.lst (cells.map .int)) ∧ 0 ≤ pend ∧ 0 ≤ acc ∧ acc < 2147483647 ∧ cnt ≤ n
  tab : ∀ p ∈ W.t.T, (∃ ps, H p.1 = some (.tbl ps)) ∧ TabX W.t.Z H p.2 p.1
  tn : TabsN W.t.TN H
/-- what the law's world lets stand -/
def Kp (W : Wl) (a : Addr) (o : HO) : Prop := a ≠ W.st ∧ a ≠ W.ce ∧ ∀ ps, o ≠ .tbl ps
def Cl (W : Wl) (G : Hp) : Prop := ∀ a o, G a = some o → Kp W a o
structure ExtW (W : Wl) (G H G' H' : Hp) : Prop where
  hh : ∀ a o, H a = some o → Kp W a o → H' a = some o
  dom : ∀ a, H' a = none → H a = none
  gg : Same G G'
  gh : Same G' H'
  fr : ∀ a, G' a ≠ none → G a ≠ none ∨ H a = none
  cl : Cl W G'
section
variable {W : Wl} {n m : Nat} {G G1 G' H H1 H' : Hp} {a : Addr} {v : V} {d : PyData}
theorem WOk.mono (w : WOk W n H) (h : n ≤ m) : WOk W m H := by
  obtain ⟨ne, ⟨cells, pend, acc, cnt, h1, h2, h3, h4, h5, h6⟩, tb, tn⟩ := w
  exact ⟨ne, ⟨cells, pend, acc, cnt, h1, h2, h3, h4, h5, Nat.le_trans h6 h⟩, tb, tn⟩
theorem WOk.up (w : WOk W n H) (e : Same H H') : WOk W n H' := by
  obtain ⟨ne, ⟨cells, pend, acc, cnt, h1, h2, r⟩, tb, tn⟩ := w
  exact ⟨ne, ⟨cells, pend, acc, cnt, e _ _ h1, e _ _ h2, r⟩, fun p hp => let ⟨⟨ps, x⟩, y⟩ := tb p hp; ⟨⟨ps, e _ _ x⟩, TabX.up e _ _ y⟩, tabsN_up2 (fun a ps h => e _ _ h) (fun a φ h => e _ _ h) tn⟩
theorem WOk.put {xs ys : List V} (w : WOk W n H) (hp : H a = some (.lst xs)) (h1 : a ≠ W.st) (h2 : a ≠ W.ce) : WOk W n (upd H a (.lst ys)) := by
  have e : ∀ b u, H b = some u → (∀ zs, u ≠ .lst zs) → upd H a (.lst ys) b = some u := fun b u q z => by
    rw [upd_ne fun y => by rw [y, hp] at q; exact z _ (Option.some.inj q).symm]; exact q
  obtain ⟨ne, ⟨cells, pend, acc, cnt, k1, k2, r⟩, tb, tn⟩ := w
  refine ⟨ne, ⟨cells, pend, acc, cnt, by rw [upd_ne h1.symm]; exact k1, by rw [upd_ne h2.symm]; exact k2, r⟩, fun p hp => let ⟨⟨ps, x⟩, y⟩ := tb p hp; ⟨⟨ps, e _ _ x fun _ z => nomatch z⟩, TabX.up2 (fun a ps h => e _ _ h fun _ z => nomatch z) (fun a φ h => e _ _ h fun _ z => nomatch z) _ _ y⟩,
    tabsN_up2 (fun a ps h => e _ _ h fun _ z => nomatch z) (fun a φ h => e _ _ h fun _ z => nomatch z) tn⟩
theorem WOk.here (w : WOk W n H) : H W.st ≠ none ∧ H W.ce ≠ none := by
  obtain ⟨cells, pend, acc, cnt, k1, k2, _⟩ := w.str
  exact ⟨by rw [k1]; simp, by rw [k2]; simp⟩
theorem WOk.off (w : WOk W n H) (h : H a = none) : a ≠ W.st ∧ a ≠ W.ce := ⟨fun z => w.here.1 (z ▸ h), fun z => w.here.2 (z ▸ h)⟩
theorem ExtW.refl (h : Same G H) (c : Cl W G) : ExtW W G H G H := ⟨fun _ _ e _ => e, fun _ e => e, Same.refl _, h, fun _ h => .inl h, c⟩
theorem ExtW.trans {G2 H2 : Hp} (a : ExtW W G H G1 H1) (b : ExtW W G1 H1 G2 H2) : ExtW W G H G2 H2 :=
  ⟨fun x o e k => b.hh x o (a.hh x o e k) k, fun x e => a.dom x (b.dom x e), a.gg.trans b.gg, b.gh, fun x h => (b.fr x h).elim (fun q => a.fr x q) fun q => .inr (a.dom x q), b.cl⟩
/-! data without tables -/
def noTb (G : Hp) : Hp := fun a => match G a with
  | some (.lst xs) => some (.lst xs)
  | some (.tup xs) => some (.tup xs)
  | some (.dK ks) => some (.dK ks)
  | some (.ins C dx fs) => some (.ins C dx fs)
  | some (.own x) => some (.own x)
  | _ => none
theorem noTb_some {o : HO} (h : noTb G a = some o) : G a = some o ∧ ∀ ps, o ≠ .tbl ps := by
  unfold noTb at h
  split at h <;> first | (cases h; exact ⟨by assumption, fun _ z => nomatch z⟩) | cases h
theorem noTb_lst {xs : List V} (h : G a = some (.lst xs)) : noTb G a = some (.lst xs) := by unfold noTb; rw [h]
theorem noTb_tup {xs : List V} (h : G a = some (.tup xs)) : noTb G a = some (.tup xs) := by unfold noTb; rw [h]
theorem noTb_ins {C dx : Addr} {fs : List (Str × V)} (h : G a = some (.ins C dx fs)) : noTb G a = some (.ins C dx fs) := by unfold noTb; rw [h]
theorem noTb_own {x : Addr} (h : G a = some (.own x)) : noTb G a = some (.own x) := by unfold noTb; rw [h]
theorem noTb_dK {ks : List (Key × V)} (h : G a = some (.dK ks)) : noTb G a = some (.dK ks) := by unfold noTb; rw [h]
mutual
theorem Dq.thin (e1 : ∀ a xs, G a = some (.lst xs) → G1 a = some (.lst xs)) (e2 : ∀ a xs, G a = some (.tup xs) → G1 a = some (.tup xs)) (e3 : ∀ a ks, G a = some (.dK ks) → G1 a = some (.dK ks)) (e4 : ∀ a C dx fs, G a = some (.ins C dx fs) → G1 a = some (.ins C dx fs)) (e5 : ∀ a x, G a = some (.own x) → G1 a = some (.own x)) : ∀ (d : PyData) (v : V), Dq G v d → Dq G1 v d
  | .none, _, h => by cases h; exact .non
  | .bool b, _, h => by cases h; exact .bl b
  | .int i, _, h => by cases h; exact .int i
  | .str x, _, h => by cases h; exact .str x
  | .list ds, _, h => by
    cases h with
    | lst h1 h2 => exact .lst (e1 _ _ h1) (DqAll.thin e1 e2 e3 e4 e5 ds _ h2)
  | .tuple ds, _, h => by
    cases h with
    | tup h1 h2 => exact .tup (e2 _ _ h1) (DqAll.thin e1 e2 e3 e4 e5 ds _ h2)
  | .dict [], _, h => by
    cases h with
    | dict h1 => exact .dict (e3 _ _ h1)
  | .dict [(_, .tuple ds)], _, h => by
    cases h with
    | ins h1 h2 h3 h4 => exact .ins (e4 _ _ _ _ h1) (e5 _ _ h2) h3 (DqAll.thin e1 e2 e3 e4 e5 ds _ h4)
theorem DqAll.thin (e1 : ∀ a xs, G a = some (.lst xs) → G1 a = some (.lst xs)) (e2 : ∀ a xs, G a = some (.tup xs) → G1 a = some (.tup xs)) (e3 : ∀ a ks, G a = some (.dK ks) → G1 a = some (.dK ks)) (e4 : ∀ a C dx fs, G a = some (.ins C dx fs) → G1 a = some (.ins C dx fs)) (e5 : ∀ a x, G a = some (.own x) → G1 a = some (.own x)) : ∀ (ds : List PyData) (vs : List V), DqAll G vs ds → DqAll G1 vs ds
  | [], _, h => by cases h; exact .nil
  | d :: ds, _, h => by
    cases h with
    | cons h1 h2 => exact .cons (Dq.thin e1 e2 e3 e4 e5 d _ h1) (DqAll.thin e1 e2 e3 e4 e5 ds _ h2)
end
theorem Dq.noTb (h : Dq G v d) : Dq (noTb G) v d := Dq.thin (fun _ _ => noTb_lst) (fun _ _ => noTb_tup) (fun _ _ => noTb_dK) (fun _ _ _ _ => noTb_ins) (fun _ _ => noTb_own) d v h
theorem DqAll.noTb {vs : List V} {ds : List PyData} (h : DqAll G vs ds) : DqAll (noTb G) vs ds := DqAll.thin (fun _ _ => noTb_lst) (fun _ _ => noTb_tup) (fun _ _ => noTb_dK) (fun _ _ _ _ => noTb_ins) (fun _ _ => noTb_own) ds vs h
/-- a growth alone is one in the law's world; the frozen part without tables, the old one kept -/
def joinG (G G' : Hp) : Hp := fun a => match G a with
  | some o => some o
  | none => noTb G' a
theorem joinG_dq (e : Same G G') (h : Dq G' v d) : Dq (joinG G G') v d := by
  have k : ∀ a o, PD.noTb G' a = some o → joinG G G' a = some o := fun a o q => by
    unfold joinG
    cases z : G a with
    | none => exact q
    | some u =>
      have q2 := (noTb_some q).1
      rw [e _ _ z] at q2
      exact q2
  exact h.noTb.up k
theorem joinG_all (e : Same G G') {vs : List V} {ds : List PyData} (h : DqAll G' vs ds) : DqAll (joinG G G') vs ds := by
  have k : ∀ a o, PD.noTb G' a = some o → joinG G G' a = some o := fun a o q => by
    unfold joinG
    cases z : G a with
    | none => exact q
    | some u =>
      have q2 := (noTb_some q).1
      rw [e _ _ z] at q2
      exact q2
  exact h.noTb.up k
theorem Ext.w (x : Ext G H G' H') (c : Cl W G) (w : WOk W n H) : ExtW W G H (joinG G G') H' := by
  refine ⟨fun a o e _ => x.hh _ _ e, fun a e => x.hh.free e, fun a o e => ?_, fun a o e => ?_, fun a e => ?_, fun a o e => ?_⟩
  · unfold joinG; rw [e]
  · unfold joinG at e
    cases z : G a with
    | none => rw [z] at e; exact x.gh _ _ (noTb_some e).1
    | some u => rw [z] at e; cases e; exact x.gh _ _ (x.gg _ _ z)
  · unfold joinG at e
    cases z : G a with
    | none =>
      rw [z] at e
      cases q : PD.noTb G' a with
      | none => exact absurd q e
      | some u =>
        rcases x.fr a (by rw [(noTb_some q).1]; simp) with y | y
        · exact absurd z y
        · exact .inr y
    | some u => exact .inl (by simp)
  · unfold joinG at e
    cases z : G a with
    | none =>
      rw [z] at e
      obtain ⟨q1, q2⟩ := noTb_some e
      rcases x.fr a (by rw [q1]; simp) with y | y
      · exact absurd z y
      · exact ⟨(w.off y).1, (w.off y).2, q2⟩
    | some u => rw [z] at e; cases e; exact c _ _ z
/-- a greater frozen part -/
theorem ExtW.lift (hG : Same G G1) (c1 : Cl W G1) (h1 : Same G1 H) (e : ExtW W G H G' H') : ∃ G2, ExtW W G1 H G2 H' ∧ Same G' G2 := by
  refine ⟨fun a => match G1 a with | some o => some o | none => G' a, ⟨e.hh, e.dom, fun b u q => ?_, fun b u q => ?_, fun b q => ?_, fun b u q => ?_⟩, fun b u q => ?_⟩
  · show (match G1 b with | some o => some o | none => G' b) = some u
    rw [q]
  · have q : (match G1 b with | some o => some o | none => G' b) = some u := q
    cases z : G1 b with
    | some o => rw [z] at q; cases q; exact e.hh _ _ (h1 _ _ z) (c1 _ _ z)
    | none => rw [z] at q; exact e.gh _ _ q
  · have q : (match G1 b with | some o => some o | none => G' b) ≠ none := q
    cases z : G1 b with
    | some o => exact .inl (by simp)
    | none =>
      rw [z] at q
      rcases e.fr b q with y | y
      · cases w : G b with
        | none => exact absurd w y
        | some o => rw [hG _ _ w] at z; cases z
      · exact .inr y
  · have q : (match G1 b with | some o => some o | none => G' b) = some u := q
    cases z : G1 b with
    | some o => rw [z] at q; cases q; exact c1 _ _ z
    | none => rw [z] at q; exact e.cl _ _ q
  · show (match G1 b with | some o => some o | none => G' b) = some u
    cases z : G1 b with
    | some o =>
      have a1 := e.hh _ _ (h1 _ _ z) (c1 _ _ z)
      rw [e.gh _ _ q] at a1
      exact a1.symm
    | none => exact q
end
/-! ### readings that may draw -/
abbrev lim : Nat := 2 ^ 40
def PN (W : Wl) (t : TE) (σ : L2.St) (G : Hp) (c : Nat) (D : PyData → Prop) : Prop := ∀ (H : Hp) (n : Nat) (Q : VK), Same G H → Cl W G → WOk W n H → n + c ≤ lim → (∀ d v G' H', D d → ExtW W G H G' H' → WOk W (n + c) H' → Dq G' v d → Q v H') → t σ H Q
def PNA (W : Wl) (t : TA) (σ : L2.St) (G : Hp) (c : Nat) (D : List PyData → Prop) : Prop := ∀ (H : Hp) (n : Nat) (Q : List V → Hp → Prop), Same G H → Cl W G → WOk W n H → n + c ≤ lim → (∀ ds vs G' H', D ds → ExtW W G H G' H' → WOk W (n + c) H' → DqAll G' vs ds → Q vs H') → t σ H Q
section
variable {W : Wl} {σ : L2.St} {G G1 : Hp} {c c1 c2 : Nat} {D D' : PyData → Prop} {DS DS' : List PyData → Prop} {te ta tb : TE} {t : TA} {d : PyData} {ds : List PyData} {tt : TT} {b : Bool}
theorem PN.mono (h : PN W te σ G c D) (e : Same G G1) : PN W te σ G1 c D := fun H n Q hs hc hw hl k => h H n Q (e.trans hs) (fun a o q => hc a o (e _ _ q)) hw hl fun d v G' H' hd x hw' dv => by
  obtain ⟨G2, y, z⟩ := x.lift e hc hs
  exact k d v G2 H' hd y hw' (dv.up z)
theorem PNA.mono (h : PNA W t σ G c DS) (e : Same G G1) : PNA W t σ G1 c DS := fun H n Q hs hc hw hl k => h H n Q (e.trans hs) (fun a o q => hc a o (e _ _ q)) hw hl fun d v G' H' hd x hw' dv => by
  obtain ⟨G2, y, z⟩ := x.lift e hc hs
  exact k d v G2 H' hd y hw' (dv.up z)
theorem PN.imp (h : PN W te σ G c D) (hc : c ≤ c1) (hd : ∀ d, D d → D' d) : PN W te σ G c1 D' := fun H n Q hs cl hw hl k => h H n Q hs cl hw (by omega) fun d v G' H' x1 x2 x3 x4 => k d v G' H' (hd d x1) x2 (x3.mono (by omega)) x4
theorem PNA.imp (h : PNA W t σ G c DS) (hc : c ≤ c1) (hd : ∀ d, DS d → DS' d) : PNA W t σ G c1 DS' := fun H n Q hs cl hw hl k => h H n Q hs cl hw (by omega) fun d v G' H' x1 x2 x3 x4 => k d v G' H' (hd d x1) x2 (x3.mono (by omega)) x4
theorem PN_of (h : PR te σ G d) : PN W te σ G 0 (· = d) := fun H n Q hs cl hw hl k => h H Q hs fun v G' H' x dv => k d v _ H' rfl (x.w cl hw) (hw.up x.hh) (joinG_dq x.gg dv)
theorem PNA_of (h : PRA t σ G ds) : PNA W t σ G 0 (· = ds) := fun H n Q hs cl hw hl k => h H Q hs fun v G' H' x dv => k ds v _ H' rfl (x.w cl hw) (hw.up x.hh) (joinG_all x.gg dv)
theorem PNA_nil : PNA W tNil σ G 0 (· = []) := PNA_of PRA_nil
theorem PNA_cons (h : PN W te σ G c1 D) (r : PNA W t σ G c2 DS) : PNA W (tCons te t) σ G (c1 + c2) (fun l => ∃ a as, l = a :: as ∧ D a ∧ DS as) := fun H n Q hs cl hw hl k =>
  h H n _ hs cl hw (by omega) fun d v G1 H1 hd x hw1 dv => (r.mono x.gg) H1 (n + c1) _ x.gh x.cl hw1 (by omega) fun ds vs G2 H2 hds y hw2 dvs => k _ _ G2 H2 ⟨d, ds, rfl, hd, hds⟩ (x.trans y) (by rw [Nat.add_assoc] at hw2; exact hw2) (.cons (dv.up y.gg) dvs)
/-- by values -/
theorem PN_CB {r : List V → Hp → VK → Prop} (hr : ∀ ds, DS ds → ∃ d, D d ∧ RR r ds d) (h : PNA W t σ G c DS) : PN W (tCB r t) σ G c D := fun H n Q hs cl hw hl k =>
  h H n _ hs cl hw hl fun ds vs G1 H1 hds x hw1 dvs => by
    obtain ⟨d, hd, hrr⟩ := hr ds hds
    exact hrr vs G1 H1 Q x.gh dvs fun v G2 H2 y dv => k d v _ H2 hd (x.trans (y.w x.cl hw1)) (hw1.up y.hh) (joinG_dq y.gg dv)
theorem PN_op {r : R2} {D1 D2 : PyData → Prop} (hr : ∀ a b, D1 a → D2 b → ∃ d, D d ∧ RR2 r a b d) (h1 : PN W ta σ G c1 D1) (h2 : PN W tb σ G c2 D2) : PN W (tOp r ta tb) σ G (c1 + c2) D := fun H n Q hs cl hw hl k =>
  h1 H n _ hs cl hw (by omega) fun d1 x G1 H1 hd1 e1 hw1 dx => (h2.mono e1.gg) H1 (n + c1) _ e1.gh e1.cl hw1 (by omega) fun d2 y G2 H2 hd2 e2 hw2 dy => by
    obtain ⟨d, hd, hrr⟩ := hr d1 d2 hd1 hd2
    rw [Nat.add_assoc] at hw2
    exact hrr x y G2 H2 Q e2.gh (dx.up e2.gg) dy fun v G3 H3 e3 dv => k d v _ H3 hd ((e1.trans e2).trans (e3.w e2.cl hw2)) (hw2.up e3.hh) (joinG_dq e3.gg dv)
theorem PN_lst (h : PNA W t σ G c DS) (hd : ∀ ds, DS ds → ds.length ≤ sizeLine ∧ D (.list ds)) : PN W (tLst t) σ G c D := fun H n Q hs cl hw hl k =>
  h H n _ hs cl hw hl fun ds vs G1 H1 hds x hw1 dvs => by
    refine ⟨by rw [dvs.len]; exact (hd ds hds).1, fun p hp => ?_⟩
    have y : Ext G1 H1 (upd G1 p (.lst vs)) (upd H1 p (.lst vs)) := .new x.gh hp
    exact k _ (.ref p) _ _ (hd ds hds).2 (x.trans (y.w x.cl hw1)) (hw1.up y.hh) (joinG_dq y.gg (.lst upd_same (dvs.up y.gg)))
theorem PN_tup (h : PNA W t σ G c DS) (hd : ∀ ds, DS ds → ds.length ≤ sizeLine ∧ D (.tuple ds)) : PN W (tTup t) σ G c D := fun H n Q hs cl hw hl k =>
  h H n _ hs cl hw hl fun ds vs G1 H1 hds x hw1 dvs => by
    refine ⟨by rw [dvs.len]; exact (hd ds hds).1, fun p hp => ?_⟩
    have y : Ext G1 H1 (upd G1 p (.tup vs)) (upd H1 p (.tup vs)) := .new x.gh hp
    exact k _ (.ref p) _ _ (hd ds hds).2 (x.trans (y.w x.cl hw1)) (hw1.up y.hh) (joinG_dq y.gg (.tup upd_same (dvs.up y.gg)))
theorem PN_if {tc : TT} (h : TR tc σ G b) (ht : b = true → PN W ta σ G c D) (hf : b = false → PN W tb σ G c D) : PN W (tIf tc ta tb) σ G c D := fun H n Q hs cl hw hl k => h H _ hs fun H1 e => by
  have y := (Ext.more hs e)
  cases b with
  | true => exact iteT (ht rfl H1 n Q (hs.trans e) cl (hw.up e) hl fun d v G2 H2 hd x hw2 dv => k d v G2 H2 hd ⟨fun a o q z => x.hh a o (e _ _ q) z, fun a q => e.free (x.dom a q), x.gg, x.gh, fun a q => (x.fr a q).elim .inl fun z => .inr (e.free z), x.cl⟩ hw2 dv)
  | false => exact iteF (hf rfl H1 n Q (hs.trans e) cl (hw.up e) hl fun d v G2 H2 hd x hw2 dv => k d v G2 H2 hd ⟨fun a o q z => x.hh a o (e _ _ q) z, fun a q => e.free (x.dom a q), x.gg, x.gh, fun a q => (x.fr a q).elim .inl fun z => .inr (e.free z), x.cl⟩ hw2 dv)
/-! ### the promises of such defs -/
/-- data in, data out; pr: what is asked of the arguments, c: how many draws at most -/
def spW (t : Tb) (c : List PyData → Nat) (pr : List PyData → Prop) (D : List PyData → PyData → Prop) : Sp := fun vs H Q _ => ∃ W G ds n, W.t = t ∧ Same G H ∧ Cl W G ∧ WOk W n H ∧ n + c ds ≤ lim ∧ DqAll G vs ds ∧ pr ds ∧
  ∀ d v G' H', D ds d → ExtW W G H G' H' → WOk W (n + c ds) H' → Dq G' v d → Q v H'
/-- the stream first -/
def spS (t : Tb) (c : List PyData → Nat) (pr : List PyData → Prop) (D : List PyData → PyData → Prop) : Sp := fun vs H Q _ => ∃ W G ds n us, W.t = t ∧ vs = .ref W.st :: us ∧ Same G H ∧ Cl W G ∧ WOk W n H ∧ n + c ds ≤ lim ∧ DqAll G us ds ∧ pr ds ∧
  ∀ d v G' H', D ds d → ExtW W G H G' H' → WOk W (n + c ds) H' → Dq G' v d → Q v H'
theorem PN_call {cc : List PyData → Nat} {pr : List PyData → Prop} {DD : List PyData → PyData → Prop} {E : XK} (h : PNA W t σ G c1 DS) (hp : ∀ ds, DS ds → pr ds ∧ cc ds ≤ c2 ∧ ∀ d, DD ds d → D d) : PN W (tCall (spW W.t cc pr DD) [] E t) σ G (c1 + c2) D := fun H n Q hs cl hw hl k =>
  h H n _ hs cl hw (by omega) fun ds vs G1 H1 hds x hw1 dvs => by
    obtain ⟨p1, p2, p3⟩ := hp ds hds
    exact ⟨W, G1, ds, n + c1, rfl, x.gh, x.cl, hw1, by omega, by rw [List.append_nil]; exact dvs, p1, fun d v G2 H2 hd y hw2 dv => k d v G2 H2 (p3 d hd) (x.trans y) (hw2.mono (by omega)) dv⟩
theorem PN_callS {i : Nat} {cc : List PyData → Nat} {pr : List PyData → Prop} {DD : List PyData → PyData → Prop} {E : XK} (hσ : σ[i]? = some (some (.ref W.st))) (h : PNA W t σ G c1 DS) (hp : ∀ ds, DS ds → pr ds ∧ cc ds ≤ c2 ∧ ∀ d, DD ds d → D d) :
    PN W (tCall (spS W.t cc pr DD) [] E (tCons (tVar i) t)) σ G (c1 + c2) D := fun H n Q hs cl hw hl k => by
  refine ⟨_, hσ, h H n _ hs cl hw (by omega) fun ds vs G1 H1 hds x hw1 dvs => ?_⟩
  obtain ⟨p1, p2, p3⟩ := hp ds hds
  exact ⟨W, G1, ds, n + c1, vs, rfl, by rw [List.append_nil], x.gh, x.cl, hw1, by omega, dvs, p1, fun d v G2 H2 hd y hw2 dv => k d v G2 H2 (p3 d hd) (x.trans y) (hw2.mono (by omega)) dv⟩
end
end PD
set_option Elab.async false
set_option linter.all false
set_option maxRecDepth 100000
set_option maxHeartbeats 4000000
/-! PdG: own lists being filled while the stream is drawn from -/
namespace PD
open PySem PySem.Spec PyProof.Rows L2 NdefX LamX
structure GrW (W : Wl) (G0 H0 : Hp) (ps : List Addr) (G H : Hp) : Prop where
  x : ExtW W G0 H0 G H
  own : ∀ q ∈ ps, G q = none ∧ H0 q = none ∧ ∃ ys, H q = some (.lst ys)
  nd : ps.Nodup
section
variable {W : Wl} {G0 H0 G H G1 H1 : Hp} {ps : List Addr} {p : Addr} {xs : List V} {n : Nat} {o : HO}
theorem GrW.start (h : Same G H) (c : Cl W G) : GrW W G H [] G H := ⟨.refl h c, fun _ h => by simp at h, List.nodup_nil⟩
theorem GrW.ext (g : GrW W G0 H0 ps G H) (w : WOk W n H0) (e : ExtW W G H G1 H1) : GrW W G0 H0 ps G1 H1 := by
  refine ⟨g.x.trans e, fun q hq => ?_, g.nd⟩
  obtain ⟨a1, a2, ys, a3⟩ := g.own q hq
  have k := w.off a2
  refine ⟨?_, a2, ys, e.hh _ _ a3 ⟨k.1, k.2, fun _ z => nomatch z⟩⟩
  cases z : G1 q with
  | none => rfl
  | some u =>
    rcases e.fr q (by rw [z]; simp) with y | y
    · exact absurd a1 y
    · rw [a3] at y; cases y
theorem GrW.same (g : GrW W G0 H0 ps G H) (w : WOk W n H0) (e : Same H H1) : GrW W G0 H0 ps G H1 :=
  g.ext w ⟨fun a o h _ => e _ _ h, fun a h => e.free h, Same.refl _, g.x.gh.trans e, fun _ h => .inl h, g.x.cl⟩
theorem GrW.new (g : GrW W G0 H0 ps G H) (w : WOk W n H0) (hp : H p = none) : GrW W G0 H0 (p :: ps) G (upd H p (.lst xs)) := by
  have g1 := g.same w (same_new (o := .lst xs) hp)
  refine ⟨g1.x, fun q hq => ?_, List.nodup_cons.mpr ⟨fun m => ?_, g.nd⟩⟩
  · rcases List.mem_cons.mp hq with rfl | hq
    · exact ⟨g.x.gh.free hp, g.x.dom _ hp, xs, upd_same⟩
    · exact g1.own q hq
  · obtain ⟨_, _, ys, a3⟩ := g.own p m
    rw [hp] at a3; cases a3
theorem GrW.off (g : GrW W G0 H0 ps G H) (w : WOk W n H0) (hp : p ∈ ps) : p ≠ W.st ∧ p ≠ W.ce := w.off (g.own p hp).2.1
theorem GrW.put (g : GrW W G0 H0 ps G H) (hp : p ∈ ps) : GrW W G0 H0 ps G (upd H p (.lst xs)) := by
  obtain ⟨a1, a2, ys, a3⟩ := g.own p hp
  refine ⟨⟨fun a o h k => ?_, fun a h => g.x.dom a (NdefX.upd_none h), g.x.gg, same_off g.x.gh a1, g.x.fr, g.x.cl⟩, fun q hq => ?_, g.nd⟩
  · rw [upd_ne fun z => by rw [z, a2] at h; cases h]
    exact g.x.hh a o h k
  · obtain ⟨b1, b2, zs, b3⟩ := g.own q hq
    by_cases e : q = p
    · subst e; exact ⟨b1, b2, xs, upd_same⟩
    · exact ⟨b1, b2, zs, by rw [upd_ne e]; exact b3⟩
theorem GrW.wput (g : GrW W G0 H0 ps G H) (w0 : WOk W n H0) {m : Nat} (w : WOk W m H) (hp : p ∈ ps) : WOk W m (upd H p (.lst xs)) := by
  obtain ⟨_, _, ys, a3⟩ := g.own p hp
  have k := g.off w0 hp
  exact w.put a3 k.1 k.2
theorem GrW.freeze (g : GrW W G0 H0 (p :: ps) G H) (w : WOk W n H0) (h : H p = some (.lst xs)) : GrW W G0 H0 ps (upd G p (.lst xs)) H ∧ Same G (upd G p (.lst xs)) := by
  have hp : p ∈ p :: ps := List.mem_cons_self ..
  obtain ⟨a1, a2, _⟩ := g.own p hp
  have nd := List.nodup_cons.mp g.nd
  have k := g.off w hp
  refine ⟨⟨⟨g.x.hh, g.x.dom, g.x.gg.trans (same_new a1), fun b o e => ?_, fun a q => ?_, fun a o q => ?_⟩, fun q hq => ?_, nd.2⟩, same_new a1⟩
  · by_cases z : b = p
    · subst z; rw [upd_same] at e; rw [h]; exact e
    · rw [upd_ne z] at e; exact g.x.gh _ _ e
  · by_cases e : a = p
    · subst e; exact .inr a2
    · rw [upd_ne e] at q; exact g.x.fr a q
  · by_cases e : a = p
    · subst e
      rw [upd_same] at q
      cases q
      exact ⟨k.1, k.2, fun _ z => nomatch z⟩
    · rw [upd_ne e] at q; exact g.x.cl _ _ q
  · obtain ⟨b1, b2, b3⟩ := g.own q (List.mem_cons_of_mem _ hq)
    have ne : q ≠ p := fun e => nd.1 (by rw [← e]; exact hq)
    exact ⟨by rw [upd_ne ne]; exact b1, b2, b3⟩
theorem GrW.drop (g : GrW W G0 H0 (p :: ps) G H) : GrW W G0 H0 ps G H := ⟨g.x, fun q hq => g.own q (List.mem_cons_of_mem _ hq), (List.nodup_cons.mp g.nd).2⟩
/-- a pure reading's growth -/
theorem GrW.pure (g : GrW W G0 H0 ps G H) (w : WOk W n H0) {m : Nat} (wh : WOk W m H) (e : Ext G H G1 H1) : GrW W G0 H0 ps (joinG G G1) H1 ∧ WOk W m H1 := ⟨g.ext w (e.w g.x.cl wh), wh.up e.hh⟩
theorem joinG_same {G G' : Hp} : Same G (joinG G G') := fun a o e => by
  unfold joinG
  rw [e]
/-- behind a turn's item -/
theorem GrW.yld {x : V} {d : PyData} {H' : Hp} (g : GrW W G0 H0 ps G H) (w : WOk W n H0) {m : Nat} (wh : WOk W m H) (h1 : Same G1 G) (y : ∀ G2, Same G1 G2 → Same G2 H → ∃ G3, Ext G2 H G3 H' ∧ Dq G3 x d) :
    ∃ G3, GrW W G0 H0 ps G3 H' ∧ WOk W m H' ∧ Same G G3 ∧ Dq G3 x d := by
  obtain ⟨G3, e, dx⟩ := y G h1 g.x.gh
  obtain ⟨g2, w2⟩ := g.pure w wh e
  exact ⟨_, g2, w2, joinG_same, joinG_dq e.gg dx⟩
end
end PD
set_option Elab.async false
set_option linter.all false
set_option maxRecDepth 100000
set_option maxHeartbeats 4000000
/-! PdN: comprehensions whose items and tests draw from the stream -/
namespace PD
open PySem PySem.Spec PyProof.Rows L2 NdefX LamX RZ
/-- some of the items (all, where sk can't be), each with one of the other list -/
inductive Kp2 (F : PyData → PyData → Prop) (sk : Prop) : List PyData → List PyData → Prop
  | nil : Kp2 F sk [] []
  | keep {a b : PyData} {as bs : List PyData} : F a b → Kp2 F sk as bs → Kp2 F sk (a :: as) (b :: bs)
  | skip {a : PyData} {as bs : List PyData} : sk → Kp2 F sk as bs → Kp2 F sk (a :: as) bs
theorem Kp2.snoc {F : PyData → PyData → Prop} {sk : Prop} {a b : PyData} (h : F a b) : ∀ {as bs : List PyData}, Kp2 F sk as bs → Kp2 F sk (as ++ [a]) (bs ++ [b])
  | _, _, .nil => .keep h .nil
  | _, _, .keep k t => .keep k (Kp2.snoc h t)
  | _, _, .skip k t => .skip k (Kp2.snoc h t)
theorem Kp2.snocS {F : PyData → PyData → Prop} {sk : Prop} {a : PyData} (h : sk) : ∀ {as bs : List PyData}, Kp2 F sk as bs → Kp2 F sk (as ++ [a]) bs
  | _, _, .nil => .skip h .nil
  | _, _, .keep k t => .keep k (Kp2.snocS h t)
  | _, _, .skip k t => .skip k (Kp2.snocS h t)
theorem Kp2.len {F : PyData → PyData → Prop} {sk : Prop} : ∀ {as bs : List PyData}, Kp2 F sk as bs → bs.length ≤ as.length
  | _, _, .nil => Nat.le_refl _
  | _, _, .keep _ t => Nat.succ_le_succ (Kp2.len t)
  | _, _, .skip _ t => Nat.le_succ_of_le (Kp2.len t)
/-- all are kept -/
theorem Kp2.all {F : PyData → PyData → Prop} : ∀ {as bs : List PyData}, Kp2 F False as bs → as.length = bs.length
  | _, _, .nil => rfl
  | _, _, .keep _ t => by simp [Kp2.all t]
  | _, _, .skip h _ => h.elim
/-- kept as they are: a sublist -/
theorem Kp2.sub {sk : Prop} : ∀ {as bs : List PyData}, Kp2 (fun a b => b = a) sk as bs → bs.Sublist as
  | _, _, .nil => List.Sublist.refl _
  | _, _, .keep e t => by subst e; exact (Kp2.sub t).cons_cons _
  | _, _, .skip _ t => (Kp2.sub t).cons _
theorem ExtW.pre {W : Wl} {G H H1 G' H' : Hp} (x : ExtW W G H1 G' H') (e : Same H H1) : ExtW W G H G' H' := ⟨fun a o q z => x.hh a o (e _ _ q) z, fun a q => e.free (x.dom a q), x.gg, x.gh, fun a q => (x.fr a q).elim .inl fun z => .inr (e.free z), x.cl⟩
def WN (W : Wl) (wi : TI) (σ : L2.St) (G : Hp) (c : Nat) (D : List PyData → Prop) : Prop := ∀ (H : Hp) (n : Nat) (R : It → Hp → Prop), Same G H → Cl W G → WOk W n H → n + c ≤ lim →
  (∀ ds J G' H', D ds → ExtW W G H G' H' → WOk W (n + c) H' → DW J G' ds → R J H') → wi σ H R
def TN (W : Wl) (t : TT) (σ : L2.St) (G : Hp) (c : Nat) (B : Bool → Prop) : Prop := ∀ (H : Hp) (n : Nat) (Q : Bool → Hp → Prop), Same G H → Cl W G → WOk W n H → n + c ≤ lim → (∀ b G' H', B b → ExtW W G H G' H' → WOk W (n + c) H' → Q b H') → t σ H Q
section
variable {W : Wl} {K : PySem.W.Frag} {σ : L2.St} {G G1 : Hp} {c c1 c2 ct : Nat} {D D' F : PyData → Prop} {DL : List PyData → Prop} {te tl : TE} {tt tu : TT} {wi : TI} {vs : List Nat} {b : Bool} {d : PyData} {ds : List PyData} {B B' : Bool → Prop}
theorem DW.up {J : It} (w : DW J G ds) (e : Same G G1) : DW J G1 ds := ⟨w.w.mono (fun H hs => e.trans hs) fun i H x H' hi hs ⟨d, a, b, k⟩ => ⟨d, a, b, fun G2 g2 h2 => k G2 (e.trans g2) h2⟩⟩
theorem WN_list (h : PN W tl σ G c D) (hD : ∀ d, D d → ∃ ds, d = .list ds ∧ DL ds) : WN W (iList K tl) σ G c DL := fun H n R hs cl hw hl k => h H n _ hs cl hw hl fun d v G' H' hd x hw' dv => by
  obtain ⟨ds, rfl, q⟩ := hD d hd
  cases dv with
  | lst ha hd => exact ⟨_, rfl, ⟨_, SqL.of (x.gh _ _ ha)⟩, k ds _ G' H' q x hw' (DW_list ha hd)⟩
theorem WN_seq (h : PN W tl σ G c D) (hD : ∀ d, D d → ∃ ds, (d = .list ds ∨ d = .tuple ds) ∧ DL ds) : WN W (iSeq K tl) σ G c DL := fun H n R hs cl hw hl k => h H n _ hs cl hw hl fun d v G' H' hd x hw' dv => by
  obtain ⟨ds, e, q⟩ := hD d hd
  rcases e with rfl | rfl
  · cases dv with
    | lst ha hd => exact ⟨_, rfl, .inl ⟨_, SqL.of (x.gh _ _ ha), k ds _ G' H' q x hw' (DW_list ha hd)⟩⟩
  · cases dv with
    | tup ha hd => exact ⟨_, rfl, .inr ⟨_, SqT.of (x.gh _ _ ha), k ds _ G' H' q x hw' (DW_tup ha hd)⟩⟩
theorem TN_of (h : TR tt σ G b) : TN W tt σ G 0 (· = b) := fun H n Q hs cl hw hl k => h H Q hs fun H' e => k b G H' rfl ((Ext.more hs e).w cl hw |> fun x => ⟨x.hh, x.dom, Same.refl _, hs.trans e, fun _ h => .inl h, cl⟩) (hw.up e)
theorem TN.imp (h : TN W tt σ G c B) (hc : c ≤ c1) (hb : ∀ b, B b → B' b) : TN W tt σ G c1 B' := fun H n Q hs cl hw hl k => h H n Q hs cl hw (by omega) fun b G' H' x1 x2 x3 => k b G' H' (hb b x1) x2 (x3.mono (by omega))
theorem TN_test (h : PN W te σ G c D) (hD : ∀ d, D d → ∃ b, d = .bool b ∧ B b) : TN W (tTest te) σ G c B := fun H n Q hs cl hw hl k => h H n _ hs cl hw hl fun d v G' H' hd x hw' dv => by
  obtain ⟨b, rfl, q⟩ := hD d hd
  cases dv
  exact ⟨b, rfl, k b G' H' q x hw'⟩
theorem TN_tB (h : PN W te σ G c D) (hD : ∀ d, D d → ∃ b, d = .bool b ∧ B b) : TN W (tB te) σ G c B := fun H n Q hs cl hw hl k => h H n _ hs cl hw hl fun d v G' H' hd x hw' dv => by
  obtain ⟨b, rfl, q⟩ := hD d hd
  cases dv
  exact ⟨b, rfl, k b G' H' q x hw'⟩
theorem TN_not (h : TN W tt σ G c B) : TN W (tNot tt) σ G c (fun b => B (!b)) := fun H n Q hs cl hw hl k => h H n _ hs cl hw hl fun b G' H' hb x hw' => k (!b) G' H' (by simpa using hb) x hw'
theorem TN_yes : TN W tYes σ G 0 (fun b => b = true) := TN_of TR_yes
theorem TN.mono (h : TN W tt σ G c B) (e : Same G G1) : TN W tt σ G1 c B := fun H n Q hs hc hw hl k => h H n Q (e.trans hs) (fun a o q => hc a o (e _ _ q)) hw hl fun b G' H' hb x hw' => by
  obtain ⟨G2, y, _⟩ := x.lift e hc hs
  exact k b G2 H' hb y hw'
theorem PN_ifN (h : TN W tt σ G c1 B) (ht : B true → PN W te σ G c2 D) (hf : B false → PN W tl σ G c2 D) : PN W (tIf tt te tl) σ G (c1 + c2) D := fun H n Q hs cl hw hl k => h H n _ hs cl hw (by omega) fun b G1 H1 hb x hw1 => by
  cases b with
  | true => exact iteT (((ht hb).mono x.gg) H1 (n + c1) Q x.gh x.cl hw1 (by omega) fun d v G2 H2 hd y hw2 dv => k d v G2 H2 hd (x.trans y) (by rw [Nat.add_assoc] at hw2; exact hw2) dv)
  | false => exact iteF (((hf hb).mono x.gg) H1 (n + c1) Q x.gh x.cl hw1 (by omega) fun d v G2 H2 hd y hw2 dv => k d v G2 H2 hd (x.trans y) (by rw [Nat.add_assoc] at hw2; exact hw2) dv)
theorem tSetN_use {i n : Nat} {De : Ends} {H : Hp} (hs : Same G H) (cl : Cl W G) (hw : WOk W n H) (hl : n + c ≤ lim) (h : PN W te σ G c D) (k : ∀ d v G' H', D d → ExtW W G H G' H' → WOk W (n + c) H' → Dq G' v d → De.nx (σ.set i (some v)) H') : tAsg te (gName i) De σ H := h H n _ hs cl hw hl k
theorem tRetN_use {n : Nat} {De : Ends} {H : Hp} (hs : Same G H) (cl : Cl W G) (hw : WOk W n H) (hl : n + c ≤ lim) (h : PN W te σ G c D) (k : ∀ d v G' H', D d → ExtW W G H G' H' → WOk W (n + c) H' → Dq G' v d → De.rt v H') : tRet te De σ H := h H n _ hs cl hw hl k
theorem tIfN_use {n : Nat} {ts us : TS} {De : Ends} {H : Hp} (hs : Same G H) (cl : Cl W G) (hw : WOk W n H) (hl : n + c ≤ lim) (h : TN W tt σ G c B) (k : ∀ b G' H', B b → ExtW W G H G' H' → WOk W (n + c) H' → if b = true then ts De σ H' else us De σ H') : tIfS tt ts us De σ H := h H n _ hs cl hw hl k
theorem tForN_use {n : Nat} {g : TG} {tb : TS} {De : Ends} {H : Hp} (hs : Same G H) (cl : Cl W G) (hw : WOk W n H) (hl : n + c ≤ lim) (h : WN W wi σ G c DL)
    (k : ∀ ds J G1 H1, DL ds → ExtW W G H G1 H1 → WOk W (n + c) H1 → DW J G1 ds → ∃ V : Nat → Nat → L2.St → Hp → Prop, (∃ m, V 0 m σ H1) ∧ ∀ i m σ H, V i m σ H → (J.stop i H ∧ De.nx σ H) ∨ (J.go i H ∧ ∃ N : L2.St → Hp → Prop, (∀ σ' H', N σ' H' → ∃ m', m' < m ∧ V (i + 1) m' σ' H') ∧
      ∀ x H', J.yld i H x H' → g x σ H' fun σ2 H2 => tb { De with nx := N, ct := N, bk := De.nx } σ2 H2)) : tFor wi g tb De σ H := h H n _ hs cl hw hl k
/-- a turn's item, in the law's world -/
theorem yldW {n : Nat} {H H' : Hp} {G2 : Hp} {x : V} (hs : Same G2 H) (cl : Cl W G2) (hw : WOk W n H) (h1 : Same G1 G2) (y : ∀ G3, Same G1 G3 → Same G3 H → ∃ G4, Ext G3 H G4 H' ∧ Dq G4 x d) : ∃ G3, ExtW W G2 H G3 H' ∧ WOk W n H' ∧ Dq G3 x d := by
  obtain ⟨G4, e, dx⟩ := y G2 h1 hs
  exact ⟨_, e.w cl hw, hw.up e.hh, joinG_dq e.gg dx⟩
def sumC (f : PyData → Nat) : List PyData → Nat
  | [] => 0
  | d :: ds => f d + sumC f ds
theorem sumC_app (f : PyData → Nat) : ∀ (as bs : List PyData), sumC f (as ++ bs) = sumC f as + sumC f bs
  | [], bs => by simp [sumC]
  | a :: as, bs => by simp [sumC, sumC_app f as bs, Nat.add_assoc]
theorem sumC_take (f : PyData → Nat) {ds : List PyData} {i : Nat} {d : PyData} (h : ds[i]? = some d) : sumC f (ds.take (i + 1)) = sumC f (ds.take i) + f d := by
  rw [List.take_add_one, h, sumC_app]
  simp [sumC]
theorem sumC_take_le (f : PyData → Nat) (ds : List PyData) (i : Nat) : sumC f (ds.take i) ≤ sumC f ds := by
  have := sumC_app f (ds.take i) (ds.drop i)
  rw [List.take_append_drop] at this
  omega
theorem PN_lc1 {i : Nat} {e1 e2 : PyData → Nat} {FF : PyData → PyData → Prop} {sk : Prop} (hw : WN W wi σ G c DL) (hset : ∀ v, wipe ((wipe σ vs).set i (some v)) vs = wipe σ vs)
    (hstep : ∀ ds, DL ds → ∀ G1 d v, Same G G1 → d ∈ ds → Dq G1 v d → Cl W G1 → TN W tt ((wipe σ vs).set i (some v)) G1 (e1 d) (fun b => b = false → sk) ∧ PN W te ((wipe σ vs).set i (some v)) G1 (e2 d) (FF d))
    (hct : c ≤ ct) (hc : ∀ ds, DL ds → c + sumC (fun d => e1 d + e2 d) ds ≤ ct ∧ ds.length ≤ sizeLine) (hD : ∀ ds ys, DL ds → Kp2 FF sk ds ys → D (.list ys)) : PN W (tLc wi (gName i) tt te vs) σ G ct D := fun H n Q hs cl hwk hl k => by
  have hb : n + c ≤ lim := by omega
  · refine hw H n _ hs cl hwk hb fun ds J G1 H1 hds x hw1 dw D0 hD0 => ?_
    obtain ⟨hc1, hc2⟩ := hc ds hds
    have g0 : GrW W G1 H1 [D0] G1 (upd H1 D0 (.lst [])) := (GrW.start x.gh x.cl).new hw1 hD0
    refine lc_it dw.w (fun i H2 => ∃ (G2 : Hp) (acc : List V) (ys : List PyData), GrW W G1 H1 [D0] G2 H2 ∧ WOk W (n + c + sumC (fun d => e1 d + e2 d) (ds.take i)) H2 ∧ H2 D0 = some (.lst acc) ∧ DqAll G2 acc ys ∧ Kp2 FF sk (ds.take i) ys) ?_ ?_ ?_ ?_
    · exact ⟨G1, [], [], g0, hw1.up (same_new hD0), upd_same, .nil, .nil⟩
    · rintro i H2 _ ⟨G2, acc, ys, g, _⟩
      exact g.x.gg.trans g.x.gh
    · rintro i y H2 H3 hi ⟨G2, acc, ys, g, w2, hacc, dq, kp⟩ ⟨d, q1, q2, q3⟩
      obtain ⟨G3, g3, w3, s3, dx⟩ := g.yld hw1 w2 g.x.gg q3
      have mem : d ∈ ds := List.mem_of_getElem? q1
      have etk : ds.take (i + 1) = ds.take i ++ [d] := by rw [List.take_add_one, q1]; rfl
      have esum := sumC_take (fun d => e1 d + e2 d) q1
      have ele := sumC_take_le (fun d => e1 d + e2 d) ds (i + 1)
      rw [esum] at ele
      have ele : sumC (fun d => e1 d + e2 d) (ds.take i) + (e1 d + e2 d) ≤ sumC (fun d => e1 d + e2 d) ds := ele
      obtain ⟨ht, he⟩ := hstep ds hds G3 d y ((x.gg.trans g.x.gg).trans s3) mem dx g3.x.cl
      refine ⟨hset y, ht H3 _ _ g3.x.gh g3.x.cl w3 (by omega) fun b G4 H4 hb' x4 w4 => ?_⟩
      have g4 := g3.ext hw1 x4
      have p4 := (g3.own D0 (List.mem_cons_self ..))
      have k0 := g3.off hw1 (List.mem_cons_self ..)
      have a3 : H3 D0 = some (.lst acc) := q2 _ _ hacc
      have a4 : H4 D0 = some (.lst acc) := x4.hh _ _ a3 ⟨k0.1, k0.2, fun _ z => nomatch z⟩
      cases b with
      | false =>
        refine iteF ⟨G4, acc, ys, g4, ?_, a4, (dq.up s3).up x4.gg, by rw [etk]; exact kp.snocS (hb' rfl)⟩
        rw [esum]
        exact w4.mono (by show _ ≤ n + c + (_ + (e1 d + e2 d)); omega)
      | true =>
        refine iteT ((he.mono x4.gg) H4 _ _ x4.gh x4.cl w4 (by omega) fun d' v' G5 H5 hd' x5 w5 dv' => ?_)
        have g5 := g4.ext hw1 x5
        have a5 : H5 D0 = some (.lst acc) := x5.hh _ _ a4 ⟨k0.1, k0.2, fun _ z => nomatch z⟩
        have hlen : acc.length ≤ i := by
          have h1 := dq.len
          have h2 := kp.len
          rw [List.length_take] at h2
          omega
        refine ⟨acc, a5, by omega, G5, acc ++ [v'], ys ++ [d'], g5.put (List.mem_cons_self ..), ?_, upd_same, (((dq.up s3).up x4.gg).up x5.gg).snoc dv', by rw [etk]; exact kp.snoc hd'⟩
        rw [esum]
        exact (g5.wput hw1 w5 (List.mem_cons_self ..)).mono (by show _ ≤ n + c + (_ + (e1 d + e2 d)); omega)
    · rintro H2 ⟨G2, acc, ys, g, w2, hacc, dq, kp⟩
      rw [List.take_length] at kp w2
      obtain ⟨g5, sg⟩ := g.freeze hw1 hacc
      exact k _ (.ref D0) _ H2 (hD ds ys hds kp) (x.trans g5.x) (w2.mono (by omega)) (.lst upd_same (dq.up sg))
end
end PD
set_option Elab.async false
set_option linter.all false
set_option maxRecDepth 100000
set_option maxHeartbeats 4000000
/-! PdSortK: sorted(xs, key=f), f a function value whose keys are tuples that may hold lists -/
namespace PD
open PySem PySem.W PySem.SeqAt PyProof.Rows L2 NdefX LamX
theorem fpok_turn {X : L2.Cx} {pins : List (Addr × Obj)} {σ : L2.St} {H H0 : L2.Hp} {s s' : Shared} {h' : Heap} {a : Addr} {t' : Nat} (I : L2.Inv X pins σ H s') (lo : s.heap.objs.size ≤ a) (I0 : L2.Inv X pins σ H0 s) (hn : H a = none) (k : ∀ b o, b ≠ a → s'.heap.get? b = some o → h'.get? b = some o) : L2.Inv X pins σ H { s' with heap := h', toks := t' } := by
  obtain ⟨f0, f1, f2, f3, f4, f5⟩ := I0.fpOk lo hn
  exact I.turned k f0 f1 f3 f4 f5
/-- how it stands between two keys -/
structure KeyI (X : L2.Cx) (pins : List (Addr × Obj)) (σ : L2.St) (H0 : L2.Hp) (a kS e1 : Nat) (kz : List PyData) (Pv : Nat → L2.Hp → Prop) (lo : Nat) (i : Nat) (s' : Shared) : Prop where
  ex : ∃ (H1 : L2.Hp) (kA : Array Value) (e : Nat) (ks : List L2.V), L2.Inv X pins σ H1 s' ∧ L2.Same H0 H1 ∧ H1 a = none ∧ H1 kS = none ∧ s'.heap.get? kS = some (seqObj "list" kA e) ∧ s'.heap.get? a = some (seqObj "list" #[] e1) ∧ L2.Vals ks kA.toList ∧ DqAll H1 ks (kz.take i) ∧ Pv i H1
theorem vals_zip : ∀ {xs : List L2.V} {us : List Value} {kz : List PyData}, L2.Vals xs us → kz.length = xs.length → EachIs (fun u (b : L2.V × PyData) => L2.RelV b.1 u) us (xs.zip kz)
  | _, _, [], .nil, _ => .nil
  | _, _, _ :: _, .nil, h => by simp at h
  | _, _, [], .cons _ _, h => by simp at h
  | _, _, d :: kz, .cons r t, h => .cons r (vals_zip t (by simpa using h))
theorem sortK_run {X : L2.Cx} {pins : List (Addr × Obj)} {σ : L2.St} {H : L2.Hp} {s : Shared} {l f : Addr} {k : Nat} {sp : L2.Sp} {xs : List L2.V} {kz : List PyData} {Pv : Nat → L2.Hp → Prop} {Q : L2.VK} (c : Cal X.prog X.w X.K X.mg X.base k f 1 sp) (hr : L2.Room (k + 2) X.A) (I : L2.Inv X pins σ H s) (hs : L2.SqL X.K H l xs) (h0 : Pv 0 H)
    (hkz : kz.length = xs.length) (hal : AllAlike kz) (hsk : Sortable kz) (hdp : ∀ d, d ∈ kz → d.depth ≤ 60 ∧ noDict d = true)
    (turn : ∀ i v d H1, Same H H1 → Pv i H1 → xs[i]? = some v → kz[i]? = some d → sp [v] H1 (fun u H2 => Same H1 H2 ∧ Dq H2 u d ∧ Pv (i + 1) H2) (fun _ _ _ => False))
    (h : ∀ H1 p, Same H H1 → Pv xs.length H1 → H1 p = none → Q (.ref p) (L2.upd H1 p (.lst (((xs.zip kz).mergeSort fun b c => leD b.2 c.2).map (·.1))))) :
    wpAny (model X.prog X.w) X.A (call (.builtin "sorted") [.ref l] [(Str.ofString "key", .ref f)]) (L2.EP X pins σ Q) X.xe s := by
  obtain ⟨its, rv, pl, hz⟩ := I.list hs
  have hL : its.length ≤ sizeLine := by rw [← rv.length]; exact hz
  have hnl := rv.length
  refine sorted_of_sort pl.isList hL (ksk_s1 _ _) (fun _ => ksk_l1 _ _) fun E' => ?_
  rw [ksk_t1]
  generalize hsc : (({ s with heap := copyHeap s.heap its } : Shared)) = sc
  have hca : sc.heap.get? (s.heap.objs.size + 1) = some (seqObj "list" its.toArray 0) := by rw [← hsc]; exact copyHeap_at s.heap its
  have hold : ∀ b o, s.heap.get? b = some o → sc.heap.get? b = some o := fun b o e => by rw [← hsc]; exact copyHeap_old e
  have Ic : L2.Inv X pins σ H sc := by rw [← hsc]; exact I.kept (t' := s.toks) fun b o e => copyHeap_old e
  have scsz : s.heap.objs.size + 1 < sc.heap.objs.size := Heap.lt_size hca
  generalize hra : s.heap.objs.size + 1 = a at hca scsz
  have loa : s.heap.objs.size ≤ a := by omega
  have na : H a = none := I.hok.fresh loa
  obtain ⟨e1, ho1⟩ : ∃ e1, (sc.heap.update a (Obj.mapSeq fun _ => (#[] : Array Value))).get? a = some (seqObj "list" #[] e1) := ⟨_, get?_update_seq hca fun _ => #[]⟩
  unfold ksk_tree
  refine wpAny_bind (listItems_at hca rfl ?_)
  refine wpAny_bind (listUpdate_at hca rfl ?_ (by rw [List.size_toArray]; exact hL) (Nat.zero_le _))
  refine wpAny_bind (seqEpoch_at ho1 rfl ?_)
  refine wpAny_bind (wpAny_newTuple ?_ (by show its.length ≤ _; exact hL))
  refine wpAny_bind (wpAny_newList ?_ (Nat.zero_le _))
  refine wpAny_holding ?_
  generalize hkS : ((sc.heap.update a (Obj.mapSeq fun _ => (#[] : Array Value))).push (seqObj "tuple" its.toArray 0)).objs.size = kS
  have kSz : kS = sc.heap.objs.size + 1 := by rw [← hkS, size_push', Heap.size_update]
  have lok : s.heap.objs.size ≤ kS := by omega
  have nk : H kS = none := I.hok.fresh lok
  have hka : kS ≠ a := by omega
  have I0 : L2.Inv X pins σ H { sc with heap := sortingHeap sc.heap a its } := fpok_turn (s := s) (t' := sc.toks) Ic loa I na fun b o hb e => sortingHeap_old hb e
  have hks0 : (sortingHeap sc.heap a its).get? kS = some (seqObj "list" #[] 0) := by
    unfold sortingHeap
    rw [← hkS]; exact Heap.get?_push_size _ rfl
  have ha0 : (sortingHeap sc.heap a its).get? a = some (seqObj "list" #[] e1) := by
    unfold sortingHeap
    exact Heap.get?_push_of_some _ (Heap.get?_push_of_some _ ho1)
  show wpAny (model X.prog X.w) X.A.in1.in1 (ksk_rest a (.ref f) false its.toArray e1 (.ref kS)) _ E' { sc with heap := sortingHeap sc.heap a its }
  revert I0 hks0 ha0
  generalize hss : (({ sc with heap := sortingHeap sc.heap a its } : Shared)) = ss
  have hsh : ss.heap = sortingHeap sc.heap a its := by rw [← hss]
  rw [← hsh]
  intro I0 hks0 ha0
  have rB : L2.Room k X.A.in1.in1 := L2.Room.in1 (L2.Room.in1 hr)
  unfold ksk_rest
  refine wpAny_bind (wpAny_rule ?_)
  first
    | rw [List.forIn_toArray]
    | (rw [← Array.forIn_toList]; simp only [List.toList_toArray])
    | rw [← Array.forIn_toList]
  refine wpAny_bind (ksk_fold (KeyI X pins σ H a kS e1 kz Pv s.heap.objs.size) its 0 ss ⟨H, #[], 0, [], I0, L2.Same.refl _, na, nk, hks0, ha0, .nil, by rw [List.take_zero]; exact .nil, h0⟩ ?_ ?_)
  · rintro j x s' hx ⟨H1, kA, e, ks, I1, sm, na1, nk1, q1, q2, rk, dk, pv⟩
    simp only [Nat.zero_add] at dk pv ⊢
    have hj : j < its.length := (List.getElem?_eq_some_iff.mp hx).1
    obtain ⟨v, hv⟩ : ∃ v, xs[j]? = some v := ⟨_, List.getElem?_eq_getElem (by omega)⟩
    obtain ⟨d, hd⟩ : ∃ d, kz[j]? = some d := ⟨_, List.getElem?_eq_getElem (by omega)⟩
    have rx : L2.RelV v x := by
      obtain ⟨u, hu, ru⟩ := rv.get hv
      rw [hx] at hu; cases hu; exact ru
    have klen : kA.toList.length ≤ its.length := by
      have e3 := rk.length
      have e4 := dk.len
      rw [List.length_take] at e4
      omega
    refine wpAny_bind (wpAny_attempt (wpAny_call (codeAny_mono (c.run X.A.in1.in1 X.stack s' H1 [x] [v] _ _ rB I1.env0.in1.in1 rfl (.cons rx .nil) (turn j v d H1 sm pv hv hd)) fun r s2 hq => ?_)))
    cases r with
    | error e => exact (cx_no hq).elim
    | ok fl =>
      cases fl with
      | next => exact hq.elim
      | brk => exact hq.elim
      | cont => exact hq.elim
      | ret u =>
        obtain ⟨y, H2, os, bare, un, hok, ry, sm2, dy, pv2⟩ := hq
        have I2 : L2.Inv X pins σ H2 s2 := I1.call' (ch := []) os un hok bare (fun b z => absurd z (by simp))
        have nfr : ∀ b : Addr, s.heap.objs.size ≤ b → b ∉ L2.frs X.stack := fun b hb z => by
          rcases List.mem_cons.mp (I.stkSub b z) with q | q
          · exact absurd (Nat.lt_of_lt_of_le I.lt hb) (by rw [q]; exact Nat.lt_irrefl _)
          · exact I.nofs hb q
        have w1 : s2.heap.get? kS = some (seqObj "list" kA e) := un.keep kS _ q1 nk1 (nfr _ lok) (by simp)
        have w2 : s2.heap.get? a = some (seqObj "list" #[] e1) := un.keep a _ q2 na1 (nfr _ loa) (by simp)
        have n1 : H2 kS = none := un.free kS _ q1 nk1 (by simp)
        have n2 : H2 a = none := un.free a _ q2 na1 (by simp)
        have s1 := Heap.SameBut.update s2.heap kS (Obj.mapSeq (·.push u))
        obtain ⟨c2, hc2⟩ : ∃ c2, (s2.heap.update kS (Obj.mapSeq (·.push u))).get? kS = some (seqObj "list" (kA.push u) c2) := ⟨_, get?_update_seq w1 (·.push u)⟩
        have ek : kz.take (j + 1) = kz.take j ++ [d] := by rw [List.take_add_one, hd]; rfl
        have ea : (kA.push u).toList = kA.toList ++ [u] := by simp
        have hkl : kA.size ≤ its.length := by rw [← Array.length_toList]; exact klen
        refine wpAny_bind (listUpdate_at w1 rfl ?_ (Nat.le_trans hkl hL) (Nat.le_trans (Nat.le_of_eq (Array.size_push ..)) (Nat.succ_le_succ (Nat.le_trans hkl hL))))
        have I3 : L2.Inv X pins σ H2 { s2 with heap := s2.heap.update kS (Obj.mapSeq (·.push u)) } := fpok_turn (s := s) (t' := s2.toks) I2 lok I n1 fun b o hb e => (s1.2 b hb).trans e
        refine wpAny_pure ⟨rfl, H2, kA.push u, c2, ks ++ [y], I3, sm.trans sm2, n2, n1, hc2, (s1.2 a hka.symm).trans w2, by rw [ea]; exact rk.append (.cons ry .nil), by rw [ek]; exact (dk.up sm2).snoc dy, pv2⟩
  · rintro s' ⟨H1, kA, e, ks, I1, sm, na1, nk1, q1, q2, rk, dk, pv⟩
    simp only [Nat.zero_add] at dk pv
    rw [List.take_of_length_le (by omega)] at dk
    have hndl : noDictL kz = true := noDictL_of fun d hd => (hdp d hd).2
    have rd : EachIs (fun v d => ∃ as, Reads s'.heap v d as) kA.toList kz := by
      have e4 := dpAll_each I1 (DqAll.dp (K := X.K) _ _ dk hndl) rk
      have e5 := each_map (R := fun v d => ∃ as, Reads s'.heap v d as) (fun b : L2.V × PyData => b.2) (e4.mono fun u b ⟨r1, r2⟩ => Dp.reads I1 b.2 b.1 u r2 r1)
      rw [zip_snd dk.len] at e5
      exact e5
    have hsz : kA.size = its.length := by
      have e6 := rd.length
      rw [Array.length_toList] at e6
      omega
    refine wpAny_bind (listItems_at q1 rfl ?_)
    obtain ⟨h1, g1, g2⟩ := L2.restrict s'.heap fun b => decide (b ≠ a) && decide (b ≠ kS)
    have gk : ∀ b o, h1.get? b = some o → b ≠ a ∧ b ≠ kS ∧ s'.heap.get? b = some o := fun b o hb => by
      by_cases hp : (decide (b ≠ a) && decide (b ≠ kS)) = true
      · have e7 := g1 b hp
        rw [Bool.and_eq_true, decide_eq_true_eq, decide_eq_true_eq] at hp
        exact ⟨hp.1, hp.2, e7 ▸ hb⟩
      · rw [g2 b (by simpa using hp)] at hb; cases hb
    refine keyH_end (κ := dataKind s'.heap kz) (h₁ := h1) (b := false) (fun b o _ hb => (gk b o hb).2.2) (g2 kS (by simp)) q1 q2 hka (SortsAt.data rd hal hsk fun d hd => ?_) hsz hL fun h3 tk3 c3 k3 n3 => ⟨rfl, ?_⟩
    · have := (hdp d hd).1
      have := hr.un
      show X.A.units + 1 + 1 + d.depth < cLine
      omega
    · have ebs : (xs.zip kz).map (·.2) = kz := zip_snd (by omega)
      have eR : EachIs (fun u (b : L2.V × PyData) => L2.RelV b.1 u) its (xs.zip kz) := vals_zip rv (by omega)
      have ko : KeyedOut false ((xs.zip kz).map (·.2)) its (sortVals (dataKind s'.heap kz) false kA.toList its) := ⟨s'.heap, kA.toList, by rw [ebs]; exact hal, by rw [ebs], by rw [ebs]; exact rd⟩
      have eo := keyedOut_each (β := L2.V × PyData) (·.2) ko eR
      generalize sortVals (dataKind s'.heap kz) false kA.toList its = out at n3 eo
      have hv := each_vals (fun u (b : L2.V × PyData) (h : L2.RelV b.1 u) => h) eo
      have nfs : ∀ b, b ≠ a → b ≠ kS → ∀ o, s'.heap.get? b = some o → h3.get? b = some o := fun b x1 x2 o e => k3 b o x1 ((g1 b (by simp [x1, x2])).trans e)
      have trk : ∀ b u, H1 b = some u → b ≠ a ∧ b ≠ kS := fun b u e => ⟨L2.ne_of_none e na1, L2.ne_of_none e nk1⟩
      have hlen : ((xs.zip kz).mergeSort (dataLe false (fun b : L2.V × PyData => b.2))).length ≤ sizeLine := by rw [(List.mergeSort_perm _ _).length_eq, List.length_zip]; omega
      have I4 : L2.Inv X pins σ (L2.upd H1 a (.lst (((xs.zip kz).mergeSort (dataLe false (fun b : L2.V × PyData => b.2))).map (·.1)))) { s' with heap := h3, toks := tk3 } := by
        refine I1.call' (ch := [a, kS]) rfl ⟨fun b o e n x1 x2 => ?_, fun b o e n x1 x2 => ?_, fun b o e n x2 => ?_, fun b o e x2 => ?_, fun b ys e => ?_, fun b o u e => ?_, fun b ps e => ⟨#[], ?_⟩⟩ (fun b u e => ?_) I1.bare fun b hb => ?_
        · exact nfs b (fun z => x2 (by simp [z])) (fun z => x2 (by simp [z])) o e
        · exact ⟨o.slots, nfs b (fun z => x2 (by simp [z])) (fun z => x2 (by simp [z])) o e⟩
        · rw [L2.upd_ne (fun z => x2 (by simp [z]))]; exact n
        · exact ⟨o, nfs b (fun z => x2 (by simp [z])) (fun z => x2 (by simp [z])) o e⟩
        · rw [L2.upd_ne (trk b _ e).1]; exact e
        · rw [L2.upd_ne (trk b _ e).1]; exact e
        · rw [L2.upd_ne (trk b _ e).1, Array.append_empty]; exact e
        · by_cases hb : b = a
          · subst hb
            rw [L2.upd_same] at e
            cases e
            exact ⟨by rw [List.length_map]; exact hlen, out, c3, hv, n3⟩
          · rw [L2.upd_ne hb] at e
            refine (I1.hok b u e).stay (fun d v hd q => ?_) (fun d q => by rw [L2.upd_ne (trk d _ q).1]; exact q) fun d ys q => by rw [L2.upd_ne (trk d _ q).1]; exact q
            rcases hd with rfl | hd
            · exact nfs d (trk d _ e).1 (trk d _ e).2 v q
            · exact nfs d (trk d _ hd).1 (trk d _ hd).2 v q
        · have hb : b = a ∨ b = kS := by simpa using hb
          have lob : s.heap.objs.size ≤ b := hb.elim (fun z => z ▸ loa) fun z => z ▸ lok
          obtain ⟨_, f1, _, f3, f4, f5⟩ := I.fpOk lob (I.hok.fresh lob)
          exact ⟨f3, f1, f4, f5⟩
      exact ⟨.ref a, _, I4, rfl, h H1 a sm (by rw [← hnl] at pv; exact pv) na1⟩
end PD
namespace PD
open PySem PySem.Spec PyProof.Rows L2 NdefX LamX
/-- sorted(e, key=g) -/
def tSortK (P : Program) (w : World) (K : PySem.W.Frag) (mg : Str → Option Value) (base : Heap) (k : Nat) (te tl : TE) : TE := fun σ H Q => tCons te tNil σ H fun vs H1 => ∃ l xs, vs = [.ref l] ∧ SqL K H1 l xs ∧ tl σ H1 fun y H2 => ∃ (f : Addr) (sp : Sp) (kz : List PyData) (Pv : Nat → Hp → Prop),
  y = .ref f ∧ SqL K H2 l xs ∧ Cal P w K mg base k f 1 sp ∧ Pv 0 H2 ∧ kz.length = xs.length ∧ PySem.W.AllAlike kz ∧ PySem.W.Sortable kz ∧ (∀ d, d ∈ kz → d.depth ≤ 60 ∧ noDict d = true) ∧
  (∀ i v d H3, Same H2 H3 → Pv i H3 → xs[i]? = some v → kz[i]? = some d → sp [v] H3 (fun u H4 => Same H3 H4 ∧ Dq H4 u d ∧ Pv (i + 1) H4) (fun _ _ _ => False)) ∧
  ∀ H3 p, Same H2 H3 → Pv xs.length H3 → H3 p = none → Q (.ref p) (upd H3 p (.lst (((xs.zip kz).mergeSort fun b c => leD b.2 c.2).map (·.1))))
section
variable {X : Cx} {e le : Expr} {te tl : TE} {p pos kp : Pos} {K : PySem.W.Frag} {k : Nat}
theorem xe_sortedK (m : X.mg "sorted" = none) (hr : Room (k + 2) X.A) (ha : PE X e te) (hl : PE X le tl) (hg : Gl X "sorted" := by rfl) (hs : starEach [e] X.env = (false, eval e X.env) :: starEach [] X.env := by rfl)
    (he : backTo pos (starEach [e] X.env) = (false, eval e X.env) :: backTo pos (starEach [] X.env) := by rfl) (hpl : (backTo pos (starEach [e] X.env)).any (·.1) = false := by rfl) :
    PE X (.Call (.Name "sorted" p) [e] [⟨some "key", le, kp⟩] pos) (tSortK X.prog X.w X.K X.mg X.base k te tl) := by
  refine ⟨fun pins s σ H Q I h => ?_⟩
  refine wpAny_Call_Name_kw (ld_blt I hg m (u := .builtin "sorted") (by decide +kernel) (PyProof.Rows.callWith_kw (thn ((pa_cons ha pa_nil hs).run pos pins s σ H _ I h) fun us s1 ⟨vs, H1, I1, r1, l, xs, ev, hsq, q⟩ => ?_) he hpl rfl rfl))
  subst ev
  obtain rfl := Vals.ref1 r1
  show wpAny _ _ (evalAll [do let v ← eval le X.env; standAt pos; pure v]) _ _ s1
  refine wpAny_evalAll_cons (wpAny_bind (thn (hl.run pins s1 σ H1 _ I1 q) fun u s2 ⟨y, H2, I2, ry, f, sp, kz, Pv, ey, sq2, c, p0, z1, z2, z3, z4, z5, z6⟩ => wpAny_bind (wpAny_standAt (wpAny_pure (wpAny_evalAll_nil ?_)))))
  subst ey
  obtain rfl : u = Value.ref f := ry
  exact sortK_run c hr I2 sq2 p0 z1 z2 z3 z4 z5 z6
end
end PD
set_option Elab.async false
set_option linter.all false
set_option maxRecDepth 100000
set_option maxHeartbeats 4000000
/-! PdMk: defs that make functions: their code object is known; the law's world behind a lambda's making -/
namespace PD
open PySem PySem.Spec PyProof.Rows L2 NdefX LamX
/-- a def of the top whose code object stands at c -/
structure DfC (K : PySem.W.Frag) (mg : Str → Option Value) (x : Str) (st : Stmt) (c : Addr) : Prop where
  ex : ∃ (f : Addr) (fd : FuncData), mg x = some (.ref f) ∧ Fun K x x st f fd ∧ fd.code = .ref c
section
variable {P : Program} {w : World} {K : PySem.W.Frag} {mg : Str → Option Value} {base : Heap} {x : Str} {k n : Nat} {sp : Sp} {st : Stmt} {c : Addr}
theorem DfC.fn {N ps : List Str} (D : DfC K mg x st c) (S : FnScope N ps (defScope st)) (len : ∀ vs H Q E, sp vs H Q E → vs.length = ps.length) (hn : ps.length = n)
    (hb : ∀ (kV doc pm : Value) (an : Option Addr) (cdv ct : Value) (us : List Value), us.length = ps.length → bindArgs (PySem.W.fnOf x x (defArgs st) (defBody st) (defScope st) .none kV doc pm an cdv ct) ⟨us, []⟩ = pure (ps.zip us))
    (hbody : ∀ (f : Addr) (A : Around) (outer : List Env) (s : Shared) (H : Hp) (vs : List V) (Q : VK) (E : XK), Room k (A.deeper (envOfC x (defScope st) s.heap.objs.size f (.ref c))) → sp vs H Q E →
      ∃ t, PSs (cxOf CX0 P w K mg base N x (defScope st) f (.ref c) A outer s H E).nox (defBody st) t ∧ t { nx := fun _ H' => Q .non H', rt := Q } (start N vs) H) : Fn P w K mg base CX0 x (k + 1) n sp := by
  obtain ⟨f, fd, h1, h2, h3⟩ := D.ex
  refine ⟨f, fd, ps, h1, h2.kp, hn, h2.binds hb, ?_⟩
  obtain ⟨oc, od, kV, doc, pm, an, cdv, ct, osl, rfl, lk, hcd⟩ := h2.ex
  obtain rfl : cdv = .ref c := h3
  refine fn_of lk hcd S len fun A outer s H vs Q E hr hsp => ?_
  obtain ⟨t, ht, q⟩ := hbody f A outer s H vs Q E hr hsp
  exact ⟨t, ht.nox, q⟩
theorem DfC.df (D : DfC K mg x st c) : Df K mg x st := let ⟨f, fd, h1, h2, _⟩ := D.ex; ⟨f, fd, h1, h2⟩
/-- the maker's table is one of the world's -/
structure MkT (t : Tb) (base : Heap) (mg : Str → Option Value) (c T : Addr) (qs : List Str) : Prop where
  tb : TabB base mg c T
  mem : (T, qs) ∈ t.T
  one : ∀ p ∈ t.T, p.1 = T → p.2 = qs
  off : ∀ p ∈ t.TN, p.1 ≠ T
end
section
variable {X : Cx} {W : Wl} {T c f c' : Addr} {q : Str} {qs : List Str} {scope : Scope} {prm : Arguments} {b : Expr} {H H1 G : Hp} {n : Nat}
theorem MkT.z {t : Tb} {base : Heap} {mg : Str → Option Value} (m : MkT t base mg c T qs) : T ∈ t.Z := List.mem_append_left _ (List.mem_map.mpr ⟨_, m.mem, rfl⟩)
theorem MkT.made {base : Heap} {mg : Str → Option Value} (m : MkT W.t base mg c T ((X.env.qual ++ "<lambda>") :: qs)) (M : LamMade X W.t.Z T qs scope prm b H f c' H1) (w : WOk W n H) : WOk W n H1 := by
  obtain ⟨p0, e0⟩ := M.was
  have nt : ∀ a o, H a = some o → (∀ ps, o ≠ .tbl ps) → H1 a = some o := fun a o e z => M.stay a o (fun y => z p0 (Option.some.inj (((y ▸ e : H T = some o)).symm.trans e0))) e
  obtain ⟨ne, ⟨cells, pend, acc, cnt, k1, k2, r⟩, tb, tn⟩ := w
  refine ⟨ne, ⟨cells, pend, acc, cnt, nt _ _ k1 (fun _ z => nomatch z), nt _ _ k2 (fun _ z => nomatch z), r⟩, fun p hp => ?_, fun p hp => ?_⟩
  · by_cases e : p.1 = T
    · rw [m.one p hp e, e]
      exact ⟨M.tab.at_, M.tab⟩
    · obtain ⟨⟨ps, x⟩, y⟩ := tb p hp
      exact ⟨⟨ps, M.stay _ _ e x⟩, TabX.but m.z M.stay ⟨p0, e0⟩ _ _ e y⟩
  · obtain ⟨ps, h1, h2, h3⟩ := tn p hp
    refine ⟨ps, M.stay _ _ (m.off p hp) h1, h2, fun pos cv hc => ?_⟩
    obtain ⟨c2, e1, e2⟩ := h3 pos cv hc
    exact ⟨c2, e1, nt _ _ e2 codeO_ne⟩
theorem MkT.ext {base : Heap} {mg : Str → Option Value} (m : MkT W.t base mg c T ((X.env.qual ++ "<lambda>") :: qs)) (M : LamMade X W.t.Z T qs scope prm b H f c' H1) (hs : Same G H) (cl : Cl W G) : ExtW W G H G H1 := by
  obtain ⟨p0, e0⟩ := M.was
  have nt : ∀ a o, H a = some o → (∀ ps, o ≠ .tbl ps) → H1 a = some o := fun a o e z => M.stay a o (fun y => z p0 (Option.some.inj (((y ▸ e : H T = some o)).symm.trans e0))) e
  exact ⟨fun a o e k => nt a o e k.2.2, M.dom, Same.refl _, fun a o e => nt a o (hs _ _ e) (cl a o e).2.2, fun _ h => .inl h, cl⟩
theorem WOk.zs (w : WOk W n H) : ∀ z ∈ W.t.Z, H z ≠ none := fun z hz => by
  rcases List.mem_append.mp hz with hz | hz
  · obtain ⟨p, hp, rfl⟩ := List.mem_map.mp hz
    obtain ⟨⟨ps, x⟩, _⟩ := w.tab p hp
    rw [x]; simp
  · obtain ⟨p, hp, rfl⟩ := List.mem_map.mp hz
    obtain ⟨ps, x, _⟩ := w.tn p hp
    rw [x]; simp
/-- x = lambda .., the maker's table in the world -/
theorem lamb_use {base : Heap} {mg : Str → Option Value} {σ : L2.St} {Q : VK} (m : MkT W.t base mg c T ((X.env.qual ++ "<lambda>") :: qs)) (w : WOk W n H) (hs : Same G H) (cl : Cl W G)
    (k : ∀ f c' H1, LamMade X W.t.Z T qs scope prm b H f c' H1 → ExtW W G H G H1 → WOk W n H1 → Q (.ref f) H1) : tLamb X (fun _ => True) W.t.Z T qs scope prm b σ H Q :=
  ⟨trivial, w.zs, (w.tab _ m.mem).2, .inl m.z, fun f c' H1 M => k f c' H1 M (m.ext M hs cl) (m.made M w)⟩
theorem pe_lambB {Z : List Addr} {qs : List Str} {pos : Pos} (B : TabB X.base X.mg c T) (hcode : X.env.code = .ref c) (hfree : ∀ y ∈ scope.names, y.2 = .free → X.env.scope.names.lookup y.1 = some .cell ∨ X.env.scope.names.lookup y.1 = some .free) (hdef : defaultsOf prm X.env = ([], [])) :
    PE X (.Lambda prm b scope pos) (tLamb X (fun _ => True) Z T qs scope prm b) := pe_lamb (fun _ _ _ _ I _ => mkB_base I B) hcode hfree hdef
theorem GrW.tmp {G0 H0 : Hp} {ps : List Addr} {p : Addr} {xs : List V} (g : GrW W G0 H0 ps G H) (hp : p ∈ ps) (h : H p = some (.lst xs)) : Same (upd G p (.lst xs)) H ∧ Same G (upd G p (.lst xs)) := by
  obtain ⟨a1, a2, _⟩ := g.own p hp
  refine ⟨fun b o e => ?_, same_new a1⟩
  by_cases z : b = p
  · subst z; rw [upd_same] at e; rw [h]; exact e
  · rw [upd_ne z] at e; exact g.x.gh _ _ e
theorem put_appendW {G0 H0 : Hp} {ps : List Addr} {p : Addr} {acc : List V} {K : PySem.W.Frag} {i m0 : Nat} {te : TE} {D : Ends} {σ : L2.St} {d : PyData} (g : GrW W G0 H0 ps G H) (w0 : WOk W m0 H0) (wh : WOk W n H) (hp : p ∈ ps) (hσ : σ[i]? = some (some (.ref p))) (hx : H p = some (.lst acc)) (h : PR te σ G d) (z : acc.length < sizeLine)
    (k : ∀ v G1 H1, GrW W G0 H0 ps G1 H1 → WOk W n H1 → Same G G1 → Dq G1 v d → H1 p = some (.lst (acc ++ [v])) → (∀ q o, q ≠ p → H q = some o → H1 q = some o) → D.nx σ H1) : tDrop (tBM K "list" rAppend (tVar i) (tCons te tNil)) D σ H := by
  refine ⟨_, hσ, .inl ⟨rfl, _, SqL.of hx⟩, h H _ g.x.gh fun v G1 H1 e1 dv => ?_⟩
  obtain ⟨g1, w1⟩ := g.pure w0 wh e1
  exact ⟨p, acc, v, rfl, rfl, e1.hh _ _ hx, z, k v _ _ (g1.put hp) (g1.wput w0 w1 hp) joinG_same (joinG_dq e1.gg dv) upd_same fun q o hq e => by rw [upd_ne hq]; exact e1.hh _ _ e⟩
/-- no captured names -/
theorem cap_nil {H : Hp} : Cap [] [] [] H := ⟨rfl, fun c hc => by simp [adr] at hc, fun x y c h => by simp at h, fun i y h => by simp at h⟩
theorem rm_nil {H : Hp} : rm [] H = H := funext fun a => rm_off (by simp)
theorem ovr_nil {T H : Hp} : ovr [] T H = H := funext fun a => ovr_off (by simp)
end
end PD
set_option Elab.async false
set_option linter.all false
set_option maxRecDepth 100000
set_option maxHeartbeats 4000000
/-! PdDict: a dict of truth values whose keys are tuples of things (texts, tuples of texts) -/
namespace PD
open PySem PySem.Spec PySem.W PyProof.Rows L2
mutual
def keyOf : PyData → NestedKey
  | .str x => .text x
  | .tuple ds => .tup (keysOf ds)
  | _ => .none
def keysOf : List PyData → List NestedKey
  | [] => []
  | d :: ds => keyOf d :: keysOf ds
end

mutual
def plainK : PyData → Bool
  | .str _ => true
  | .tuple ds => plainKs ds
  | _ => false
def plainKs : List PyData → Bool
  | [] => true
  | d :: ds => plainK d && plainKs ds
end
mutual
theorem keyOf_inj : ∀ a b : PyData, plainK a = true → plainK b = true → keyOf a = keyOf b → a = b
  | .str x, .str y, _, _, h => by simp only [keyOf, NestedKey.text.injEq] at h; rw [h]
  | .str x, .tuple ds, _, _, h => by simp [keyOf] at h
  | .tuple ds, .str y, _, _, h => by simp [keyOf] at h
  | .tuple ds, .tuple es, ha, hb, h => by
    simp only [keyOf, NestedKey.tup.injEq] at h
    rw [keysOf_inj ds es (by simpa [plainK] using ha) (by simpa [plainK] using hb) h]
  | .none, _, h, _, _ => by simp [plainK] at h
  | .bool _, _, h, _, _ => by simp [plainK] at h
  | .int _, _, h, _, _ => by simp [plainK] at h
  | .list _, _, h, _, _ => by simp [plainK] at h
  | .dict _, _, h, _, _ => by simp [plainK] at h
  | .str _, .none, _, h, _ => by simp [plainK] at h
  | .str _, .bool _, _, h, _ => by simp [plainK] at h
  | .str _, .int _, _, h, _ => by simp [plainK] at h
  | .str _, .list _, _, h, _ => by simp [plainK] at h
  | .str _, .dict _, _, h, _ => by simp [plainK] at h
  | .tuple _, .none, _, h, _ => by simp [plainK] at h
  | .tuple _, .bool _, _, h, _ => by simp [plainK] at h
  | .tuple _, .int _, _, h, _ => by simp [plainK] at h
  | .tuple _, .list _, _, h, _ => by simp [plainK] at h
  | .tuple _, .dict _, _, h, _ => by simp [plainK] at h
theorem keysOf_inj : ∀ as bs : List PyData, plainKs as = true → plainKs bs = true → keysOf as = keysOf bs → as = bs
  | [], [], _, _, _ => rfl
  | [], _ :: _, _, _, h => by simp [keysOf] at h
  | _ :: _, [], _, _, h => by simp [keysOf] at h
  | a :: as, b :: bs, ha, hb, h => by
    rw [plainKs, Bool.and_eq_true] at ha hb
    rw [keysOf, keysOf, List.cons.injEq] at h
    rw [keyOf_inj a b ha.1 hb.1 h.1, keysOf_inj as bs ha.2 hb.2 h.2]
end
section
variable {P : Program} {w : World} {H G : Hp} {h : Heap}
mutual
theorem Dq.nested (ok : HOk P w H h) : ∀ (d : PyData) (v : V) (u : Value), Dq H v d → RelV v u → plainK d = true → NestedIs h (keyOf d) u
  | .str x, _, _, hd, r, _ => by
    cases hd
    obtain ⟨t, rfl⟩ := r
    exact .text x t
  | .tuple ds, _, _, hd, r, p => by
    cases hd with
    | tup h1 h2 =>
      cases r
      obtain ⟨_, its, rv, o, e, c1, m, c2⟩ := ok _ _ h1
      exact .tup e c1 c2 (DqAll.nested ok ds _ _ h2 rv (by simpa [plainK] using p))
  | .none, _, _, _, _, p => by simp [plainK] at p
  | .bool _, _, _, _, _, p => by simp [plainK] at p
  | .int _, _, _, _, _, p => by simp [plainK] at p
  | .list _, _, _, _, _, p => by simp [plainK] at p
  | .dict _, _, _, _, _, p => by simp [plainK] at p
theorem DqAll.nested (ok : HOk P w H h) : ∀ (ds : List PyData) (vs : List V) (us : List Value), DqAll H vs ds → Vals vs us → plainKs ds = true → NestedAll h (keysOf ds) us
  | [], _, _, hd, r, _ => by
    cases hd
    cases r
    exact .nil
  | d :: ds, _, _, hd, r, p => by
    rw [plainKs, Bool.and_eq_true] at p
    cases hd with
    | cons h1 h2 =>
      cases r with
      | cons r1 r2 => exact .cons (Dq.nested ok d _ _ h1 r1 p.1) (DqAll.nested ok ds _ _ h2 r2 p.2)
end
mutual
theorem key_depth : ∀ d : PyData, (keyOf d).depth ≤ d.depth
  | .str x => by simp [keyOf, NestedKey.depth]
  | .tuple ds => by
    have := keys_depth ds
    simp only [keyOf, NestedKey.depth, PyData.depth]
    omega
  | .none => by simp [keyOf, NestedKey.depth]
  | .bool _ => by simp [keyOf, NestedKey.depth]
  | .int _ => by simp [keyOf, NestedKey.depth]
  | .list _ => by simp [keyOf, NestedKey.depth]
  | .dict _ => by simp [keyOf, NestedKey.depth]
theorem keys_depth : ∀ ds : List PyData, NestedKey.depthAll (keysOf ds) ≤ PyData.depthAll ds
  | [] => by simp [keysOf, NestedKey.depthAll]
  | d :: ds => by
    have h1 := key_depth d
    have h2 := keys_depth ds
    simp only [keysOf, NestedKey.depthAll, PyData.depthAll]
    omega
end
/-- the dict at d, by its entries -/
def KnO (P : Program) (w : World) (d : Addr) (xs : List (NestedKey × Addr × Value)) : HO := .ext fun h => (d == sysModules) = false ∧ ∃ o es ep, h.get? d = some o ∧ o.ExactDict ∧ o.data = .dict es ep ∧ es.toList = xs.map (entryOfKey (nestedKind P w)) ∧ (xs.map (·.1)).Nodup
/-- a good key -/
def GoodK (l : List PyData) : Prop := plainKs l = true ∧ PyData.depth (.tuple l) ≤ 8
/-- the entries: data and truth values -/
abbrev Kn := List (List PyData × Bool)
/-- the entries' tuples stand in H -/
def KnE (H : Hp) : List (NestedKey × Addr × Value) → Kn → Prop
  | [], [] => True
  | x :: xs, k :: ks => x.1 = keyOf (.tuple k.1) ∧ Dq H (.ref x.2.1) (.tuple k.1) ∧ GoodK k.1 ∧ x.2.2 = .bool k.2 ∧ KnE H xs ks
  | _, _ => False
theorem KnE.up {H' : Hp} (e : Same H H') : ∀ {xs : List (NestedKey × Addr × Value)} {ks : Kn}, KnE H xs ks → KnE H' xs ks
  | [], [], _ => trivial
  | _ :: _, _ :: _, ⟨a, b, c, d, r⟩ => ⟨a, b.up e, c, d, KnE.up e r⟩
  | [], _ :: _, h => h.elim
  | _ :: _, [], h => h.elim
theorem KnE.snoc {x : NestedKey × Addr × Value} {k : List PyData × Bool} (hx : x.1 = keyOf (.tuple k.1) ∧ Dq H (.ref x.2.1) (.tuple k.1) ∧ GoodK k.1 ∧ x.2.2 = .bool k.2) : ∀ {xs : List (NestedKey × Addr × Value)} {ks : Kn}, KnE H xs ks → KnE H (xs ++ [x]) (ks ++ [k])
  | [], [], _ => ⟨hx.1, hx.2.1, hx.2.2.1, hx.2.2.2, trivial⟩
  | _ :: _, _ :: _, ⟨a, b, c, d, r⟩ => ⟨a, b, c, d, KnE.snoc hx r⟩
  | [], _ :: _, h => h.elim
  | _ :: _, [], h => h.elim
theorem KnE.is (ok : HOk P w H h) : ∀ {xs : List (NestedKey × Addr × Value)} {ks : Kn}, KnE H xs ks → ∀ x ∈ xs, (nestedKind P w).is h x.1 x.2.1
  | [], [], _, x, hx => by cases hx
  | y :: ys, k :: ks, ⟨a, b, c, d, r⟩, x, hx => by
    rcases List.mem_cons.mp hx with rfl | hx
    · rw [a]
      exact ⟨Dq.nested ok _ _ _ b rfl (by simpa [plainK] using c.1), Nat.le_trans (key_depth _) c.2⟩
    · exact KnE.is ok r x hx
  | [], _ :: _, h, _, _ => h.elim
  | _ :: _, [], h, _, _ => h.elim
/-- what is known of l -/
def knAt : Kn → List PyData → Option Bool
  | [], _ => none
  | k :: ks, l => if keyOf (.tuple k.1) = keyOf (.tuple l) then some k.2 else knAt ks l
theorem KnE.at_ {l : List PyData} : ∀ {xs : List (NestedKey × Addr × Value)} {ks : Kn}, KnE H xs ks → (atKey xs (keyOf (.tuple l))).map (·.2) = (knAt ks l).map Value.bool
  | [], [], _ => rfl
  | x :: xs, k :: ks, ⟨a, b, c, d, r⟩ => by
    have ih := KnE.at_ (l := l) r
    by_cases e : keyOf (.tuple k.1) = keyOf (.tuple l)
    · simp [atKey, knAt, a, d, e]
    · simpa [atKey, knAt, a, e] using ih
  | [], _ :: _, h => h.elim
  | _ :: _, [], h => h.elim
theorem knO_of {d : Addr} {xs : List (NestedKey × Addr × Value)} {ks : Kn} (ok : HOk P w H h) (e : H d = some (KnO P w d xs)) (ke : KnE H xs ks) : (d == sysModules) = false ∧ h.DictOfH (nestedKind P w) d xs := by
  obtain ⟨⟨z, o, es, ep, e1, e2, e3, e4, e5⟩, _⟩ := ok d _ e
  exact ⟨z, o, es, ep, e1, e2, e3, e4, ke.is ok, e5⟩
theorem knO_ok {d : Addr} {xs : List (NestedKey × Addr × Value)} (z : (d == sysModules) = false) (x : h.DictOfH (nestedKind P w) d xs) : ObjOk P w H h d (KnO P w d xs) := by
  obtain ⟨o, es, ep, e1, e2, e3, e4, _, e5⟩ := x
  exact ⟨⟨z, o, es, ep, e1, e2, e3, e4, e5⟩, ⟨o, e1⟩, fun h1 h2 ⟨z, o, es, ep, e1, r⟩ st => ⟨z, o, es, ep, st _ e1, r⟩⟩
end
section
variable {X : Cx} {pins : List (Addr × Obj)} {σ : L2.St} {H : Hp} {s : Shared}
/-- a in d, d[a], d[a] = v: the dict at d, the key at a -/
structure DKey (P : Program) (w : World) (H : Hp) (d a : Addr) (l : List PyData) (xs : List (NestedKey × Addr × Value)) (ks : Kn) : Prop where
  d : H d = some (KnO P w d xs)
  k : Dq H (.ref a) (.tuple l)
  g : GoodK l
  e : KnE H xs ks
  z : xs.length < 16000000
theorem DKey.is {d a : Addr} {l : List PyData} {xs : List (NestedKey × Addr × Value)} {ks : Kn} (y : DKey X.prog X.w H d a l xs ks) (I : Inv X pins σ H s) : (nestedKind X.prog X.w).is s.heap (keyOf (.tuple l)) a :=
  ⟨Dq.nested I.hok _ _ _ y.k rfl (by simpa [plainK] using y.g.1), Nat.le_trans (key_depth _) y.g.2⟩
def rNotInK (P : Program) (w : World) : R2 := fun x y H Q => ∃ a d l xs ks, x = .ref a ∧ y = .ref d ∧ DKey P w H d a l xs ks ∧ Q (.bl (!(knAt ks l).isSome)) H
theorem op_notInK (hu : X.A.units + 65 < cLine) : OpR X (compareOp .NotIn) (rNotInK X.prog X.w) := by
  intro pins s σ H x y v u Q I rx ry ⟨a, d, l, xs, ks, ex, ey, k, q⟩
  subst ex ey
  cases rx
  cases ry
  obtain ⟨z, hm⟩ := knO_of I.hok k.d k.e
  have e := k.e.at_ (l := l)
  refine notIn_keyed (kvs := pairsH xs) (by show X.A.units + 1 + 8 < cLine; omega) (k.is I) z ⟨xs, hm, rfl⟩ ?_
  rw [valueAt_pairsH, e, Option.isSome_map]
  exact ⟨.bl _, H, I.tok _, rfl, q⟩
def tGetK (P : Program) (w : World) (td tk : TE) : TE := fun σ H Q => td σ H fun x H1 => tk σ H1 fun y H2 => ∃ a d l xs ks b, x = .ref d ∧ y = .ref a ∧ DKey P w H2 d a l xs ks ∧ knAt ks l = some b ∧ Q (.bl b) H2
theorem pe_getK {o i : Expr} {td tk : TE} {pos : Pos} (hu : X.A.units + 65 < cLine) (ho : PE X o td) (hi : PE X i tk) (hs : NoSl i) : PE X (.Subscript o i pos) (tGetK X.prog X.w td tk) := by
  refine ⟨fun pins s σ H Q I h => ?_⟩
  refine subD_of PySem.F.slot_dict_getitem.lookup hs (thn (ho.run pins s σ H _ I h) fun u s1 ⟨x, H1, I1, rx, q1⟩ => thn (hi.run pins s1 σ H1 _ I1 q1) fun iv s2 ⟨y, H2, I2, ry, a, d, l, xs, ks, b, ex, ey, k, hb, q2⟩ => ?_)
  subst ex ey
  cases rx
  cases ry
  obtain ⟨z, hm⟩ := knO_of I2.hok k.d k.e
  have e := k.e.at_ (l := l)
  rw [hb] at e
  obtain ⟨p, hp, hv⟩ : ∃ p, atKey xs (keyOf (.tuple l)) = some p ∧ p.2 = .bool b := by
    cases q : atKey xs (keyOf (.tuple l)) with
    | none => rw [q] at e; cases e
    | some p => rw [q] at e; exact ⟨p, rfl, Option.some.inj e⟩
  refine ⟨hm.typeIs, wpAny_getItem_heap (by show X.A.units + 1 + 8 < cLine; omega) (k.is I2) hm hp ?_⟩
  rw [hv]
  exact ⟨.bl b, H2, I2.tok _, rfl, q2⟩
def rSetK (P : Program) (w : World) : TSet := fun o i v H Q => ∃ a d l xs ks b, o = .ref d ∧ i = .ref a ∧ v = .bl b ∧ DKey P w H d a l xs ks ∧ knAt ks l = none ∧ Q (upd H d (KnO P w d (xs ++ [(keyOf (.tuple l), a, .bool b)])))
theorem set_K (hu : X.A.units + 65 < cLine) : PSet X (rSetK X.prog X.w) := by
  intro pins s σ H o i v ov iv u Q I ro ri rv ⟨a, d, l, xs, ks, b, eo, ei, ev, k, hn, q⟩
  subst eo ei ev
  cases ro
  cases ri
  cases rv
  obtain ⟨z, hm⟩ := knO_of I.hok k.d k.e
  have e := k.e.at_ (l := l)
  rw [hn] at e
  have hat : atKey xs (keyOf (.tuple l)) = none := by
    cases q : atKey xs (keyOf (.tuple l)) with
    | none => rfl
    | some p => rw [q] at e; cases e
  refine wpAny_setItem_heap (knd := nestedKind X.prog X.w) (by show X.A.units + 1 + 8 < cLine; omega) (k.is I) hm (fun h' hm' sb => ?_) (by rw [sizeLine_eq]; have := k.z; omega)
  rw [storedH_new hat] at hm'
  refine ⟨_, I.write (x := d) (e := d) (o := KnO X.prog X.w d (xs ++ [(keyOf (.tuple l), a, .bool b)])) (by rw [k.d]; exact True.intro) (.inl rfl) (fun c u hc q => (sb.2 c hc).trans q) (let ⟨o, _, _, e, _⟩ := hm'; ⟨o, e⟩) (knO_ok z hm'), q⟩
/-- {} -/
def tNewK (P : Program) (w : World) : TE := fun _ H Q => ∀ d, H d = none → Q (.ref d) (upd H d (KnO P w d []))
theorem pe_newK {pos : Pos} : PE X (.Dict [] [] pos) (tNewK X.prog X.w) := ⟨fun pins s σ H Q I h => by
  refine wpAny_Dict_empty ⟨.ref s.heap.objs.size, _, I.laid (a := s.heap.objs.size) (o := KnO X.prog X.w s.heap.objs.size []) (t' := s.toks) (fun _ _ q => Heap.get?_push_of_some _ q) (Nat.le_refl _) (knO_ok ?_ (Heap.DictOfH.new s.heap)), rfl, h _ (I.hok.fresh (Nat.le_refl _))⟩
  have := I.big
  simp only [beq_eq_false_iff_ne]
  exact Nat.ne_of_gt this⟩
end
end PD
set_option Elab.async false
set_option linter.all false
set_option maxRecDepth 100000
set_option maxHeartbeats 4000000
/-! PdCls: fields of an instance as targets -/
namespace PD
open PySem PySem.Spec PyProof.Rows L2
def gFld (K : PySem.W.Frag) (to : TE) (f : Str) : TG := fun v σ H Q => to σ H fun o H1 => ∃ a C dx fs, o = .ref a ∧ H1 a = some (.ins C dx fs) ∧ Cls K C ∧ NoAttr K C f ∧ fs.length < 1000 ∧ Q σ (upd H1 a (.ins C dx (putF f v fs)))
section
variable {X : Cx} {o : Expr} {to : TE} {f : Str} {pos : Pos}
theorem pg_fld (ho : PE X o to) (ha : ∀ v, assign (.Attribute o f pos) X.env v = (do
      let ov ← holding [v] (eval o X.env)
      standAt pos.atName
      holding [v, ov] (setAttr ov f v)
      release [v, ov] []) := by intro _; rfl) : PG X (.Attribute o f pos) (gFld X.K to f) := by
  refine ⟨fun pins s σ H v u Q I r h => ?_⟩
  rw [ha]
  refine wpAny_bind (wpAny_holding (thn (ho.run pins s σ H _ I h) fun ov s1 ⟨x, H1, I1, r1, a, C, dx, fs, ex, ea, c, n, l, q1⟩ => ?_))
  subst ex
  obtain rfl : ov = Value.ref a := r1
  refine wpAny_bind (wpAny_standAt (wpAny_bind (wpAny_holding (setattr_ok I1 ea c n l r fun s2 I2 => ?_))))
  exact wpAny_release ⟨σ, _, I2, q1⟩
end
end PD
set_option Elab.async false
set_option linter.all false
set_option maxRecDepth 100000
set_option maxHeartbeats 4000000
/-! PdTry: several clauses 'except X as n', all with the same name -/
namespace PD
open PySem PySem.Spec PyProof.Rows L2
abbrev Suites := List (Value × (Addr → Value → Option Addr → TS))
/-- what the clauses wish of an exception of the body -/
def wManyAs (K : PySem.W.Frag) (i : Nat) (Wout : WX) (D : Ends) : Suites → WX
  | [] => Wout
  | q :: l => wAs K q.1 i q.2 (wManyAs K i Wout D l) D
inductive HdsAs (X : Cx) (n : Str) : List ExceptHandler → Suites → Prop
  | nil : HdsAs X n [] []
  | cons {x : Str} {c : Value} {ts : Addr → Value → Option Addr → TS} {st : Stmt} {sts : List Stmt} {p1 p2 : Pos} {hds : List ExceptHandler} {l : Suites} : Names X x c →
      (∀ (a : Addr) (o : Obj) (cls : Value) (d : Option Addr) (pn : List (Addr × Obj)), Zc cls d o → (∃ vs, o.data = .fields vs) → PSs (X.suite a ((a, o) :: pn)) (st :: sts) (ts a cls d)) → HdsAs X n hds l →
      HdsAs X n (.ExceptHandler (some (.Name x p1)) (some n) (st :: sts) p2 :: hds) ((c, ts) :: l)
section
variable {X : Cx} {n : Str} {i : Nat} {body : List Stmt} {hd : ExceptHandler} {hds : List ExceptHandler} {l : Suites} {pos : Pos} {tb : WX → TS} {Wout : WX}
theorem ps_try_manyAs (stk : X.stack = X.env :: X.outer) (frm : X.env.frame = some X.env.locals) (nd : X.N.Nodup) (hi : X.N[i]? = some n) (kin : X.env.kindOf n = some .local) (tk : Takes X Wout)
    (hb : ∀ (W : WX) (pn : List (Addr × Obj)) (xe : Value → Shared → Prop), Takes (X.tr pn xe) W → PassesOwn (model X.prog X.w) X.A X.env xe → PSs (X.tr pn xe) body (tb W))
    (hh : HdsAs X n (hd :: hds) l) : PS X (.Try body (hd :: hds) [] [] pos) (fun D σ H => tb (wManyAs X.K i Wout D l) D σ H) := by
  refine ⟨fun pins s σ H D I0 h0 => ?_⟩
  have ok := I0.ok
  have frs0 : X.A.frames = some (X.env :: X.outer) := by rw [ok.frames, stk]
  refine wpAny_Try_except (wpAny_mono ((hb (wManyAs X.K i Wout D l) (X.pn ++ pins) (fun e sh => wpAny (model X.prog X.w) X.A (noteFrame e X.env) (fun _ sh2 => wpAny (model X.prog X.w) X.A (setFlight e none) (fun _ sh3 =>
    wpAny (model X.prog X.w) X.A (handleBy e X.env (hd :: hds)) (SP X pins D) X.xe sh3) X.xe sh2) X.xe sh) (fun u t xx => ?_) PassesOwn.looking).run [] s σ H D (I0.toTry _) h0) (fun fl t sp => ?_) (fun e t he => he))
  · obtain ⟨a, B, sI, pins2, σ', H', cls, d, rfl, J0, nb, up, sky, na, os, ag, wish⟩ := xx
    have J : Inv X pins σ' H' sI := J0.ofTry ok
    have sky2 : Sky B (X.env :: X.outer) a (Zc cls d) X.env.locals t.heap := by rw [← stk]; exact sky
    refine Sky.land Zc.steady frs0 frm sky2 fun g gl gup => ?_
    have Jg : Inv X pins σ' H' { t with heap := g } := J.landed nb gl.1 (up.trans gup) os ag
    obtain ⟨o3, f3, e3, z3, d3⟩ := gl.there
    have notIn : a ∉ frs (X.env :: X.outer) := fun hm => by
      obtain ⟨_, o', e', hnf⟩ := gl.2.2.1.mem hm
      rw [e3] at e'
      cases e'
      exact hnf _ d3
    have nLoc : a ≠ X.env.locals := fun z => notIn (List.mem_filterMap.mpr ⟨X.env, List.mem_cons_self, by rw [frm, z]⟩)
    have nFs : a ∉ X.fs := fun hm => by
      obtain ⟨e, he, q⟩ := List.mem_filterMap.mp hm
      exact notIn (List.mem_filterMap.mpr ⟨e, List.mem_cons_of_mem _ he, q⟩)
    have Sg := Jg.suite e3 d3 na nLoc nFs
    have go : ∀ {hs' : List ExceptHandler} {l' : Suites}, HdsAs X n hs' l' → wManyAs X.K i Wout D l' cls d σ' H' → wpAny (model X.prog X.w) X.A (handleBy (.ref a) X.env hs') (SP X pins D) X.xe { t with heap := g } := by
      intro hs' l' hk
      induction hk with
      | nil =>
        intro wout
        refine wpAny_handleBy_nil ?_
        obtain ⟨_, _, _, o, fs, T, _, _, q1, _, q2, q3, _⟩ := id gl
        unfold PySem.passOn
        refine wpAny_bind (wpAny_field q1 q2 q3 ?_)
        rw [if_neg (show ¬ ((Value.ref T == Value.none) = true) by simp)]
        have out : wpAny (model X.prog X.w) X.A (setFlight (.ref a) X.env.frame) (fun _ t4 => wpAny (model X.prog X.w) X.A (throw (.ref a) : Sem Flow) (SP X pins D) X.xe t4) X.xe { t with heap := g } := by
          rw [frm]
          exact HandSPX.setFlight_upZ gl fun g4 held up4 => wpAny_throw (tk _ _ ⟨a, B, sI, pins, σ', H', cls, d, rfl, J, nb, (up.trans gup).trans up4, .inr (.inr (by rw [stk]; exact held)), na, os, ag, wout⟩)
        first
          | exact wpAny_bind (wpAny_pure (wpAny_bind out))
          | exact wpAny_bind out
      | @cons x c ts st sts p1 p2 hds2 l2 named suite _ ih =>
        intro wish2
        obtain ⟨b, hb1, yes, no⟩ := wish2
        refine wpAny_handleBy_cons (codeAny_handlers_test ?_) (by intro q; cases q)
        have look : PySem.W.Looks (model X.prog X.w) g (typeOf (.ref a)) cls := fun A Q E u k q => wpAny_typeOf_ref (k _ _ e3) (by rw [z3.1]; exact q)
        have match1 := PySem.W.exm_one (M := model X.prog X.w) Jg.kIn look hb1
        have load : ∀ {Q : Value → Shared → Prop} {E : Value → Shared → Prop}, Q c { t with heap := g } → wpAny (model X.prog X.w) (X.A.mark (some (.ref a))) (eval (.Name x p1) X.env) Q E { t with heap := g } := fun {Q E} q => by
          obtain ⟨hg, hdb, hm | ⟨hm, hv, hn⟩⟩ := named
          · exact ld_glob (X := X.suite a ((a, o3) :: (X.pn ++ pins))) Sg hg hm q hdb
          · exact ld_blt (X := X.suite a ((a, o3) :: (X.pn ++ pins))) Sg hg hm hv q hn hdb
        refine load (match1.here ?_)
        cases b with
        | false => exact ih (no rfl)
        | true =>
          refine codeAny_handlers_suite_as (HandSPX.lands_againZ gl fun g4 gl4 up4 => ?_)
          have Jh : Inv X pins σ' H' { t with heap := g4 } := J.landed nb gl4.1 ((up.trans gup).trans up4) os ag
          obtain ⟨o4, f4, e4, z4, d4⟩ := gl4.there
          refine store_ok (X := X.suite a ((a, o4) :: (X.pn ++ pins))) (v := .ref a) (Jh.suite e4 d4 na nLoc nFs) nd hi (.inl kin) rfl (fun t5 S5 => ?_) (.inr kin)
          refine wpAny_mono ((suite a o4 cls d (X.pn ++ pins) z4 ⟨_, d4⟩).run [] t5 _ H' _ S5 (yes rfl a na)) (fun fl t6 sp => ?_) (fun _ _ z => False.elim z)
          have unbound : ∀ {σ6 : L2.St} {H6 : Hp} {Q : Shared → Prop}, Inv (X.suite a ((a, o4) :: (X.pn ++ pins))) [] σ6 H6 t6 → (∀ t7, Inv X pins (σ6.set i none) H6 t7 → Q t7) →
              wpAny (model X.prog X.w) X.A (do bindName X.env n .none; unbindBehindTheSuite X.env n p2) (fun _ t7 => Q t7) X.xe t6 := fun S6 hq => gone_ok (S6.unsuite ok) nd hi kin hq
          cases fl with
          | ret u =>
            obtain ⟨_, σ6, H6, S6, r6, q6⟩ := sp
            exact unbound S6 fun t7 J7 => ⟨_, _, _, J7, r6, q6⟩
          | next => obtain ⟨σ6, H6, S6, q6⟩ := sp; exact unbound S6 fun t7 J7 => ⟨_, _, J7, q6⟩
          | brk => obtain ⟨σ6, H6, S6, q6⟩ := sp; exact unbound S6 fun t7 J7 => ⟨_, _, J7, q6⟩
          | cont => obtain ⟨σ6, H6, S6, q6⟩ := sp; exact unbound S6 fun t7 J7 => ⟨_, _, J7, q6⟩
    exact go hh wish
  · cases fl with
    | ret u => obtain ⟨v, σ', H', J, r, q⟩ := sp; exact ⟨v, σ', H', J.ofTry ok, r, q⟩
    | next => obtain ⟨σ', H', J, q⟩ := sp; exact wpAny_execs_nil ⟨σ', H', J.ofTry ok, q⟩
    | brk => obtain ⟨σ', H', J, q⟩ := sp; exact ⟨σ', H', J.ofTry ok, q⟩
    | cont => obtain ⟨σ', H', J, q⟩ := sp; exact ⟨σ', H', J.ofTry ok, q⟩
end
end PD
set_option Elab.async false
set_option linter.all false
set_option maxRecDepth 100000
set_option maxHeartbeats 4000000
/-! PdFresh: data whose lists are all new -/
namespace PD
open PySem PySem.Spec PyProof.Rows L2 RZ
/-- G without the lists that stood in H -/
def cut (H G : Hp) : Hp := fun a => match G a with
  | some (.lst xs) => match H a with
    | none => some (.lst xs)
    | some _ => none
  | o => o
section
variable {H H' G G' : Hp} {a : Addr} {xs : List V} {v : V} {d : PyData}
theorem cut_lst (h : G a = some (.lst xs)) (n : H a = none) : cut H G a = some (.lst xs) := by unfold cut; rw [h, n]
theorem cut_sub : Same (cut H G) G := fun a o e => by
  unfold cut at e
  cases q : G a with
  | none => rw [q] at e; cases e
  | some u =>
    rw [q] at e
    cases u with
    | lst xs =>
      cases r : H a with
      | none => rw [r] at e; exact e
      | some z => rw [r] at e; cases e
    | _ => exact e
theorem cut_old {o : HO} (h : G a = some o) (n : ∀ xs, o ≠ .lst xs) : cut H G a = some o := by
  unfold cut
  rw [h]
  cases o with
  | lst xs => exact absurd rfl (n xs)
  | _ => rfl
theorem cut_new (h : cut H G a = some (.lst xs)) : H a = none := by
  unfold cut at h
  cases q : G a with
  | none => rw [q] at h; cases h
  | some u =>
    rw [q] at h
    cases u with
    | lst ys =>
      cases r : H a with
      | none => rfl
      | some z => rw [r] at h; cases h
    | _ => cases h
theorem cut_mono (e : Same G G') : Same (cut H G) (cut H G') := fun a o h => by
  have g := e _ _ (cut_sub _ _ h)
  cases o with
  | lst xs => exact cut_lst g (cut_new h)
  | _ => exact cut_old g fun _ z => nomatch z
/-- new since later is new since earlier -/
theorem cut_back (e : Same H H') : Same (cut H' G) (cut H G) := fun a o h => by
  have g := cut_sub _ _ h
  cases o with
  | lst xs => exact cut_lst g (e.free (cut_new h))
  | _ => exact cut_old g fun _ z => nomatch z
/-! no list within -/
mutual
def noList : PyData → Bool
  | .list _ => false
  | .tuple ds => noListL ds
  | .dict (_ :: _) => false
  | _ => true
def noListL : List PyData → Bool
  | [] => true
  | d :: ds => noList d && noListL ds
end
mutual
theorem Dq.cut : ∀ (d : PyData) (v : V), Dq G v d → noList d = true → Dq (PD.cut H G) v d
  | .none, _, h, _ => by cases h; exact .non
  | .bool b, _, h, _ => by cases h; exact .bl b
  | .int i, _, h, _ => by cases h; exact .int i
  | .str x, _, h, _ => by cases h; exact .str x
  | .list ds, _, h, n => by simp [noList] at n
  | .tuple ds, _, h, n => by
    cases h with
    | tup h1 h2 => exact .tup (cut_old h1 fun _ z => nomatch z) (DqAll.cut ds _ h2 (by simpa [noList] using n))
  | .dict [], _, h, _ => by
    cases h with
    | dict h1 => exact .dict (cut_old h1 fun _ z => nomatch z)
  | .dict (_ :: _), _, _, n => by simp [noList] at n
theorem DqAll.cut : ∀ (ds : List PyData) (vs : List V), DqAll G vs ds → noListL ds = true → DqAll (PD.cut H G) vs ds
  | [], _, h, _ => by cases h; exact .nil
  | d :: ds, _, h, n => by
    rw [noListL, Bool.and_eq_true] at n
    cases h with
    | cons h1 h2 => exact .cons (Dq.cut d _ h1 n.1) (DqAll.cut ds _ h2 n.2)
end
theorem noListL_of {ds : List PyData} (h : ∀ d, d ∈ ds → noList d = true) : noListL ds = true := by
  induction ds with
  | nil => rfl
  | cons d ds ih => rw [noListL, h d (List.mem_cons_self ..), ih fun e m => h e (List.mem_cons_of_mem _ m)]; rfl
/-- a frozen part all of whose lists are new: what is read through it is new too -/
theorem Dq.allNew (h : Dq G v d) (n : ∀ a xs, G a = some (.lst xs) → H a = none) : Dq (PD.cut H G) v d := by
  have e : Same G (PD.cut H G) := fun a o q => by
    cases o with
    | lst xs => exact cut_lst q (n a xs q)
    | _ => exact cut_old q fun _ z => nomatch z
  exact h.up e
end
def PRF (t : TE) (σ : L2.St) (G : Hp) (d : PyData) : Prop := ∀ (H : Hp) (Q : VK), Same G H → (∀ v G' H', Ext G H G' H' → Dq (cut H G') v d → Q v H') → t σ H Q
section
variable {K : PySem.W.Frag} {σ : L2.St} {G : Hp} {wi : TI} {te : TE} {vs : List Nat} {β : Type} {bs : List β} {enc f : β → PyData} {i : Nat} {ds : List PyData} {d : PyData}
theorem PRF.pr (h : PRF te σ G d) : PR te σ G d := fun H Q hs k => h H Q hs fun v G' H' e dv => k v G' H' e (dv.up cut_sub)
theorem PRF.eq {d1 : PyData} (h : PRF te σ G d) (e : d = d1) : PRF te σ G d1 := e ▸ h
/-- a built-in that makes a new list of things -/
theorem PRF_CB {r : List V → Hp → VK → Prop} {t : TA} (hr : ∀ (vs : List V) (G H : Hp) (Q : VK), Same G H → DqAll G vs ds → (∀ v G' H', Ext G H G' H' → Dq (cut H G') v d → Q v H') → r vs H Q) (h : PRA t σ G ds) : PRF (tCB r t) σ G d := fun H Q hs k =>
  h H _ hs fun vs G1 H1 e1 dv => hr vs G1 H1 Q e1.gh dv fun v G2 H2 e2 dv2 => k v G2 H2 (e1.trans e2) (dv2.up (cut_back e1.hh))
theorem RRF_sorted {ds : List PyData} (h : SortOk ds) (hn : noListL ds = true) (vs : List V) (G H : Hp) (Q : VK) (hs : Same G H) (hd : DqAll G vs [.list ds]) (k : ∀ v G' H', Ext G H G' H' → Dq (cut H G') v (.list (sortD ds)) → Q v H') : rSortedD K vs H Q := by
  obtain ⟨x, rfl, hx⟩ := hd.one
  cases hx with
  | @lst a xs _ ha hall =>
    refine ⟨a, xs, ds, rfl, SqL.of (hs _ _ ha), DqAll.dp _ _ (hall.up hs) (noDictL_of fun d hd => (h.2 d hd).2.2), h.1, fun d hd => ⟨(h.2 d hd).1, (h.2 d hd).2.1⟩, fun zs p hp hm hH => ?_⟩
    have q := dqAll_of (G := G) (zs := zs) fun b hb => dqAll_zip hall b (hp.mem_iff.mp hb)
    rw [hm] at q
    refine k _ _ _ (.new hs hH) (.lst (cut_lst upd_same hH) ((DqAll.cut (H := H) _ _ (q.up (same_new (o := .lst (zs.map (·.1))) (hs.free hH))) (noListL_of fun d hd => ?_))))
    have hd := sortD_mem.mp hd
    have : ∀ (ds : List PyData), noListL ds = true → ∀ d ∈ ds, noList d = true := fun ds => by
      induction ds with
      | nil => intro _ d hd; cases hd
      | cons e es ih =>
        intro hh d hd
        rw [noListL, Bool.and_eq_true] at hh
        rcases List.mem_cons.mp hd with rfl | hd
        · exact hh.1
        · exact ih hh.2 d hd
    exact this ds hn d hd
theorem PRF_map1 (hw : WR wi σ G (bs.map enc)) (hset : ∀ v, wipe ((wipe σ vs).set i (some v)) vs = wipe σ vs)
    (hstep : ∀ G1 b v, Same G G1 → b ∈ bs → Dq G1 v (enc b) → PRF te ((wipe σ vs).set i (some v)) G1 (f b)) (hlen : bs.length ≤ sizeLine) : PRF (tLc wi (gName i) tYes te vs) σ G (.list (bs.map f)) := fun H Q hs k => by
  refine hw H _ hs fun J G1 H1 e1 dw D hD => ?_
  have g0 : Gr G1 H1 [D] G1 (upd H1 D (.lst [])) := (Gr.start e1.gh).new hD
  refine lc_it dw.w (fun j H2 => ∃ (G2 : Hp) (acc : List V), Gr G1 H1 [D] G2 H2 ∧ H2 D = some (.lst acc) ∧ DqAll (cut H G2) acc ((bs.take j).map f)) ?_ ?_ ?_ ?_
  · exact ⟨G1, [], g0, upd_same, .nil⟩
  · rintro j H2 _ ⟨G2, acc, g, _⟩
    exact g.gg.trans g.gh
  · rintro j x H2 H3 hj ⟨G2, acc, g, hacc, da⟩ ⟨d, b1, b2, b3⟩
    obtain ⟨G3, g3, s3, dx⟩ := g.yld g.gg b3
    rw [List.getElem?_map] at b1
    obtain ⟨b, c1, rfl⟩ : ∃ b, bs[j]? = some b ∧ enc b = d := by
      cases q : bs[j]? with
      | none => rw [q] at b1; simp at b1
      | some b => rw [q] at b1; exact ⟨b, rfl, Option.some.inj b1⟩
    have etk : bs.take (j + 1) = bs.take j ++ [b] := by rw [List.take_add_one, c1]; rfl
    refine ⟨hset x, TR_yes (G := G3) H3 _ g3.gh fun H3' e3 => iteT (hstep G3 b x ((e1.gg.trans g.gg).trans s3) (List.mem_of_getElem? c1) dx H3' _ (g3.gh.trans e3) fun v G4 H4 e4 dv => ?_)⟩
    have g4 := (g3.same e3).ext e4
    have a4 : H4 D = some (.lst acc) := e4.hh _ _ (e3 _ _ (b2 _ _ hacc))
    have dl := da.len
    rw [List.length_map, List.length_take] at dl
    refine ⟨acc, a4, by have : j < bs.length := (List.getElem?_eq_some_iff.mp c1).1; omega, G4, acc ++ [v], g4.put (List.mem_cons_self ..), upd_same, ?_⟩
    rw [etk, List.map_append]
    have sH : Same H H3' := e1.hh.trans ((g.hh.trans b2).trans e3)
    exact (da.up (cut_mono (s3.trans e4.gg))).snoc (dv.up (cut_back sH))
  · rintro H2 ⟨G2, acc, g, hacc, da⟩
    rw [List.length_map, List.take_length] at da
    have gf := g.freeze hacc
    have hD0 : H D = none := e1.hh.free hD
    exact k (.ref D) _ H2 (e1.trans gf.done) (.lst (cut_lst upd_same hD0) (da.up (cut_mono (g.tmp (List.mem_cons_self ..) hacc).2)))
theorem PRF_var {j : Nat} {v : V} (h : σ[j]? = some (some v)) (k : Dq G v d) (n : noList d = true) : PRF (tVar j) σ G d := fun H Q hs q => ⟨v, h, q v G H (.refl hs) (Dq.cut d v k n)⟩
variable {tt : TT} {p : β → Bool}
theorem PRF_lc1 (hw : WR wi σ G (bs.map enc)) (hset : ∀ v, wipe ((wipe σ vs).set i (some v)) vs = wipe σ vs)
    (hstep : ∀ G1 b v, Same G G1 → b ∈ bs → Dq G1 v (enc b) → TR tt ((wipe σ vs).set i (some v)) G1 (p b) ∧ (p b = true → PRF te ((wipe σ vs).set i (some v)) G1 (f b))) (hlen : bs.length ≤ sizeLine) : PRF (tLc wi (gName i) tt te vs) σ G (.list ((bs.filter p).map f)) := fun H Q hs k => by
  refine hw H _ hs fun J G1 H1 e1 dw D hD => ?_
  have g0 : Gr G1 H1 [D] G1 (upd H1 D (.lst [])) := (Gr.start e1.gh).new hD
  refine lc_it dw.w (fun j H2 => ∃ (G2 : Hp) (acc : List V), Gr G1 H1 [D] G2 H2 ∧ H2 D = some (.lst acc) ∧ acc.length ≤ j ∧ DqAll (cut H G2) acc (((bs.take j).filter p).map f)) ?_ ?_ ?_ ?_
  · exact ⟨G1, [], g0, upd_same, Nat.le_refl _, .nil⟩
  · rintro j H2 _ ⟨G2, acc, g, _⟩
    exact g.gg.trans g.gh
  · rintro j x H2 H3 hj ⟨G2, acc, g, hacc, hal, da⟩ ⟨d, b1, b2, b3⟩
    obtain ⟨G3, g3, s3, dx⟩ := g.yld g.gg b3
    rw [List.getElem?_map] at b1
    obtain ⟨b, c1, rfl⟩ : ∃ b, bs[j]? = some b ∧ enc b = d := by
      cases q : bs[j]? with
      | none => rw [q] at b1; simp at b1
      | some b => rw [q] at b1; exact ⟨b, rfl, Option.some.inj b1⟩
    have etk : bs.take (j + 1) = bs.take j ++ [b] := by rw [List.take_add_one, c1]; rfl
    have jb : j < bs.length := (List.getElem?_eq_some_iff.mp c1).1
    obtain ⟨ht, he⟩ := hstep G3 b x ((e1.gg.trans g.gg).trans s3) (List.mem_of_getElem? c1) dx
    refine ⟨hset x, ht H3 _ g3.gh fun H3' e3 => ?_⟩
    have a3 : H3' D = some (.lst acc) := e3 _ _ (b2 _ _ hacc)
    have sH : Same H H3' := e1.hh.trans ((g.hh.trans b2).trans e3)
    cases hp : p b with
    | false =>
      refine iteF ⟨G3, acc, g3.same e3, a3, by omega, ?_⟩
      have : (bs.take (j + 1)).filter p = (bs.take j).filter p := by rw [etk, List.filter_append]; simp [hp]
      rw [this]
      exact da.up (cut_mono s3)
    | true =>
      refine iteT ((he hp) H3' _ (g3.gh.trans e3) fun v G4 H4 e4 dv => ?_)
      have g4 := (g3.same e3).ext e4
      have a4 : H4 D = some (.lst acc) := e4.hh _ _ a3
      refine ⟨acc, a4, by omega, G4, acc ++ [v], g4.put (List.mem_cons_self ..), upd_same, by simp; omega, ?_⟩
      have : ((bs.take (j + 1)).filter p).map f = ((bs.take j).filter p).map f ++ [f b] := by rw [etk, List.filter_append]; simp [hp]
      rw [this]
      exact (da.up (cut_mono (s3.trans e4.gg))).snoc (dv.up (cut_back sH))
  · rintro H2 ⟨G2, acc, g, hacc, _, da⟩
    rw [List.length_map, List.take_length] at da
    have gf := g.freeze hacc
    have hD0 : H D = none := e1.hh.free hD
    exact k (.ref D) _ H2 (e1.trans gf.done) (.lst (cut_lst upd_same hD0) (da.up (cut_mono (g.tmp (List.mem_cons_self ..) hacc).2)))
end
end PD
set_option Elab.async false
set_option linter.all false
set_option maxRecDepth 100000
set_option maxHeartbeats 4000000
/-! PdE: more readings: comparisons of ints, chains, slices, patterns, constant tuples, None -/
namespace PD
open PySem PySem.Spec PyProof.Rows L2 StX RZ
section
variable {σ : L2.St} {G G1 : Hp} {d d1 d2 d3 : PyData} {ta tb tc te : TE} {b c : Bool} {K : PySem.W.Frag} {i j : Int}
/-! ### ints -/
theorem RR2_ltI {i j : Int} : RR2 (rI0 fun i j => .bl (decide (i < j))) (.int i) (.int j) (.bool (decide (i < j))) := fun x y G H Q hs h1 h2 k => by
  cases h1; cases h2; exact ⟨i, j, rfl, rfl, k _ G H (.refl hs) (.bl _)⟩
theorem RR2_leI {i j : Int} : RR2 (rI0 fun i j => .bl (decide (i ≤ j))) (.int i) (.int j) (.bool (decide (i ≤ j))) := fun x y G H Q hs h1 h2 k => by
  cases h1; cases h2; exact ⟨i, j, rfl, rfl, k _ G H (.refl hs) (.bl _)⟩
theorem RR2_gtI {i j : Int} : RR2 (rI0 fun i j => .bl (decide (j < i))) (.int i) (.int j) (.bool (decide (j < i))) := fun x y G H Q hs h1 h2 k => by
  cases h1; cases h2; exact ⟨i, j, rfl, rfl, k _ G H (.refl hs) (.bl _)⟩
theorem RR2_geI {i j : Int} : RR2 (rI0 fun i j => .bl (decide (j ≤ i))) (.int i) (.int j) (.bool (decide (j ≤ i))) := fun x y G H Q hs h1 h2 k => by
  cases h1; cases h2; exact ⟨i, j, rfl, rfl, k _ G H (.refl hs) (.bl _)⟩
theorem RR2_addI {i j : Int} : RR2 (rI0 fun i j => .int (i + j)) (.int i) (.int j) (.int (i + j)) := fun x y G H Q hs h1 h2 k => by
  cases h1; cases h2; exact ⟨i, j, rfl, rfl, k _ G H (.refl hs) (.int _)⟩
theorem RR2_subI {i j : Int} : RR2 (rI0 fun i j => .int (i - j)) (.int i) (.int j) (.int (i - j)) := fun x y G H Q hs h1 h2 k => by
  cases h1; cases h2; exact ⟨i, j, rfl, rfl, k _ G H (.refl hs) (.int _)⟩
theorem RR2_eqI {i j : Int} : RR2 rEq (.int i) (.int j) (.bool (decide (i = j))) := fun x y G H Q hs h1 h2 k => by
  cases h1; cases h2
  refine ⟨rfl, ?_⟩
  have e : decide (V.int i = V.int j) = decide (i = j) := by
    by_cases h : i = j
    · subst h; simp
    · rw [decide_eq_false h]; exact decide_eq_false fun z => h (V.int.inj z)
  rw [e]
  exact k _ G H (.refl hs) (.bl _)
theorem RR2_neI {i j : Int} : RR2 rNe (.int i) (.int j) (.bool (decide (i ≠ j))) := fun x y G H Q hs h1 h2 k => by
  cases h1; cases h2
  refine ⟨rfl, ?_⟩
  have e : (!decide (V.int i = V.int j)) = decide (i ≠ j) := by
    by_cases h : i = j
    · subst h; simp
    · rw [decide_eq_false (p := V.int i = V.int j) fun z => h (V.int.inj z), decide_eq_true h]; rfl
  rw [e]
  exact k _ G H (.refl hs) (.bl _)
theorem RR2_eqS {x y : Str} : RR2 rEq (.str x) (.str y) (.bool (decide (x = y))) := fun u v G H Q hs h1 h2 k => by
  cases h1; cases h2
  refine ⟨rfl, ?_⟩
  have e : decide (V.str x = V.str y) = decide (x = y) := by
    by_cases h : x = y
    · subst h; simp
    · rw [decide_eq_false h]; exact decide_eq_false fun z => h (V.str.inj z)
  rw [e]
  exact k _ G H (.refl hs) (.bl _)
theorem RR2_neS {x y : Str} : RR2 rNe (.str x) (.str y) (.bool (decide (x ≠ y))) := fun u v G H Q hs h1 h2 k => by
  cases h1; cases h2
  refine ⟨rfl, ?_⟩
  have e : (!decide (V.str x = V.str y)) = decide (x ≠ y) := by
    by_cases h : x = y
    · subst h; simp
    · rw [decide_eq_false (p := V.str x = V.str y) fun z => h (V.str.inj z), decide_eq_true h]; rfl
  rw [e]
  exact k _ G H (.refl hs) (.bl _)
/-- a < b < c -/
theorem PR_chain {r r' : R2} (h1 : RR2 r d1 d2 (.bool b)) (h2 : RR2 r' d2 d3 (.bool c)) (ha : PR ta σ G d1) (hb : PR tb σ G d2) (hc : PR tc σ G d3) : PR (tChain r r' ta tb tc) σ G (.bool (b && c)) := fun H Q hs k =>
  ha H _ hs fun x G1 H1 e1 dx => (hb.mono e1.gg) H1 _ e1.gh fun y G2 H2 e2 dy => h1 x y G2 H2 _ e2.gh (dx.up e2.gg) dy fun v G3 H3 e3 dv => by
    cases dv
    refine ⟨b, rfl, ?_⟩
    have e123 := (e1.trans e2).trans e3
    cases b with
    | true => exact iteT ((hc.mono e123.gg) H3 _ e3.gh fun z G4 H4 e4 dz => h2 y z G4 H4 Q e4.gh ((dy.up e3.gg).up e4.gg) dz fun v G5 H5 e5 dv => k v G5 H5 ((e123.trans e4).trans e5) dv)
    | false => exact iteF (k _ G3 H3 e123 (.bl _))
/-! ### min, max of two ints -/
theorem RR_max2 {i j : Int} : RR (fun xs H Q => ∃ i j, xs = [.int i, .int j] ∧ Q (.int (if j > i then j else i)) H) [.int i, .int j] (.int (max i j)) := fun vs G H Q hs hd k => by
  obtain ⟨x, y, rfl, hx, hy⟩ := hd.two
  cases hx; cases hy
  have e : (if j > i then j else i) = max i j := by split <;> omega
  exact ⟨i, j, rfl, e ▸ k _ G H (.refl hs) (.int _)⟩
theorem RR_min2 {i j : Int} : RR (fun xs H Q => ∃ i j, xs = [.int i, .int j] ∧ Q (.int (if j < i then j else i)) H) [.int i, .int j] (.int (min i j)) := fun vs G H Q hs hd k => by
  obtain ⟨x, y, rfl, hx, hy⟩ := hd.two
  cases hx; cases hy
  have e : (if j < i then j else i) = min i j := by split <;> omega
  exact ⟨i, j, rfl, e ▸ k _ G H (.refl hs) (.int _)⟩
/-! ### slices -/
theorem cutV_drop (xs : List V) (n : Nat) : cutV xs (some (n : Int)) none = xs.drop n := by
  unfold cutV
  rw [HT.sIx_none, HT.sIx_nat]
  have e : xs.drop (min n xs.length) = xs.drop n := by
    rcases Nat.le_total n xs.length with h | h
    · rw [Nat.min_eq_left h]
    · rw [Nat.min_eq_right h, List.drop_length, List.drop_of_length_le h]
  rw [e]
  refine List.take_of_length_le ?_
  rw [List.length_drop]
  omega
theorem PR_slFrom {es : List PyData} {n : Nat} (h1 : PR ta σ G (.list es)) (h2 : PR tb σ G (.int n)) : PR (tSl (rSlL K) ta (tPart tb) tNoPart) σ G (.list (es.drop n)) := fun H Q hs k =>
  h1 H _ hs fun x G1 H1 e1 dx => (h2.mono e1.gg) H1 _ e1.gh fun y G2 H2 e2 dy => by
    cases dy
    refine ⟨_, rfl, ?_⟩
    cases dx with
    | lst ha hall =>
      refine ⟨_, _, rfl, SqL.of (e2.hh _ _ (e1.gh _ _ ha)), fun p hp => ?_⟩
      rw [cutV_drop]
      exact k _ _ _ ((e1.trans e2).trans (.new e2.gh hp)) (.lst upd_same ((hall.drop n).up (e2.gg.trans (same_new (e2.gh.free hp)))))
theorem PR_slToT {es : List PyData} {n : Nat} (h1 : PR ta σ G (.tuple es)) (h2 : PR tb σ G (.int n)) : PR (tSl (rSlA K) ta tNoPart (tPart tb)) σ G (.tuple (es.take n)) := fun H Q hs k =>
  h1 H _ hs fun x G1 H1 e1 dx => (h2.mono e1.gg) H1 _ e1.gh fun y G2 H2 e2 dy => by
    cases dy
    refine ⟨_, rfl, ?_⟩
    cases dx with
    | @tup a xs _ ha hall =>
      refine ⟨_, _, rfl, SqT.of (e2.hh _ _ (e1.gh _ _ ha)), fun hw => ?_, fun _ p hp => ?_⟩
      · have hl : xs.length ≤ n := by
          have := hw.2
          rw [HT.sIx_nat] at this
          omega
        have e : es.take n = es := List.take_of_length_le (by rw [← hall.len]; exact hl)
        exact k _ _ _ (e1.trans e2) (by rw [e]; exact .tup (e2.gg _ _ ha) (hall.up e2.gg))
      · have ec : ∀ xs : List V, cutV xs none (some (n : Int)) = xs.take n := fun xs => cutV_take xs n
        rw [ec]
        exact k _ _ _ ((e1.trans e2).trans (.new e2.gh hp)) (.tup upd_same ((hall.take n).up (e2.gg.trans (same_new (e2.gh.free hp)))))
theorem PR_slFromT {es : List PyData} {n : Nat} (h1 : PR ta σ G (.tuple es)) (h2 : PR tb σ G (.int n)) : PR (tSl (rSlA K) ta (tPart tb) tNoPart) σ G (.tuple (es.drop n)) := fun H Q hs k =>
  h1 H _ hs fun x G1 H1 e1 dx => (h2.mono e1.gg) H1 _ e1.gh fun y G2 H2 e2 dy => by
    cases dy
    refine ⟨_, rfl, ?_⟩
    cases dx with
    | @tup a xs _ ha hall =>
      refine ⟨_, _, rfl, SqT.of (e2.hh _ _ (e1.gh _ _ ha)), fun hw => ?_, fun _ p hp => ?_⟩
      · have h0 := hw.1
        rw [HT.sIx_nat] at h0
        have e : es.drop n = es := by
          rcases Nat.eq_zero_or_pos n with z | z
          · subst z; rfl
          · have e0 : es = [] := List.length_eq_zero_iff.mp (by rw [← hall.len]; omega)
            rw [e0]; simp
        exact k _ _ _ (e1.trans e2) (by rw [e]; exact .tup (e2.gg _ _ ha) (hall.up e2.gg))
      · rw [cutV_drop]
        exact k _ _ _ ((e1.trans e2).trans (.new e2.gh hp)) (.tup upd_same ((hall.drop n).up (e2.gg.trans (same_new (e2.gh.free hp)))))
theorem RR2_catT {es fs : List PyData} (h1 : es ≠ []) (h2 : fs ≠ []) (z : es.length + fs.length ≤ sizeLine) : RR2 (rCatT K) (.tuple es) (.tuple fs) (.tuple (es ++ fs)) := fun x y G H Q hs hx hy k => by
  cases hx with
  | @tup a xs _ ha hall =>
    cases hy with
    | @tup a' ys _ hb hbll =>
      have nx : xs ≠ [] := fun z => h1 (List.length_eq_zero_iff.mp (by rw [← hall.len, z]; rfl))
      have ny : ys ≠ [] := fun z => h2 (List.length_eq_zero_iff.mp (by rw [← hbll.len, z]; rfl))
      exact ⟨_, _, _, _, rfl, rfl, SqT.of (hs _ _ ha), SqT.of (hs _ _ hb), nx, by rw [hall.len, hbll.len]; exact z, fun z => (ny z).elim, fun _ p hp => k _ _ _ (.new hs hp) (.tup upd_same ((hall.app hbll).up (same_new (hs.free hp))))⟩
/-! ### None -/
def isNon : PyData → Bool
  | .none => true
  | _ => false
theorem RR2_isN : RR2 (fun x y H Q => y = .non ∧ Q (.bl (decide (x = .non))) H) d .none (.bool (isNon d)) := fun x y G H Q hs h1 h2 k => by
  cases h2
  refine ⟨rfl, ?_⟩
  have e : decide (x = V.non) = isNon d := by
    cases h1 <;> first | rfl | exact decide_eq_false (fun z => by cases z)
  rw [e]
  exact k _ G H (.refl hs) (.bl _)
theorem RR2_notN : RR2 (fun x y H Q => y = .non ∧ Q (.bl (!decide (x = .non))) H) d .none (.bool (!isNon d)) := fun x y G H Q hs h1 h2 k => by
  cases h2
  refine ⟨rfl, ?_⟩
  have e : decide (x = V.non) = isNon d := by
    cases h1 <;> first | rfl | exact decide_eq_false (fun z => by cases z)
  rw [e]
  exact k _ G H (.refl hs) (.bl _)
/-! ### x in (a, b, ..) of texts -/
theorem dqAll_strs {H : Hp} : ∀ {ss : List Str} {vs : List V}, DqAll H vs (ss.map .str) → vs = ss.map .str
  | [], _, h => by cases h; rfl
  | s :: ss, _, h => by
    cases h with
    | cons h1 h2 => cases h1; rw [dqAll_strs h2]; rfl
theorem flat_strs (ss : List Str) : (ss.map V.str).all flatV = true := by
  rw [List.all_map]; exact List.all_eq_true.mpr fun _ _ => rfl
theorem inV_strs (s : Str) (ss : List Str) : inV (.str s) (ss.map .str) = ss.any fun z => decide (z = s) := by
  unfold inV
  rw [List.any_map]
  congr 1
theorem RR2_inT {s : Str} {ss : List Str} : RR2 (rIn K false) (.str s) (.tuple (ss.map .str)) (.bool (ss.any fun z => decide (z = s))) := fun x y G H Q hs h1 h2 k => by
  cases h1
  cases h2 with
  | tup ha hall =>
    rw [dqAll_strs hall] at ha
    refine ⟨_, _, rfl, .inr (SqT.of (hs _ _ ha)), rfl, flat_strs ss, ?_⟩
    rw [if_neg (by decide), inV_strs]
    exact k _ G H (.refl hs) (.bl _)
theorem RR2_notinT {s : Str} {ss : List Str} : RR2 (rIn K true) (.str s) (.tuple (ss.map .str)) (.bool (!ss.any fun z => decide (z = s))) := fun x y G H Q hs h1 h2 k => by
  cases h1
  cases h2 with
  | tup ha hall =>
    rw [dqAll_strs hall] at ha
    refine ⟨_, _, rfl, .inr (SqT.of (hs _ _ ha)), rfl, flat_strs ss, ?_⟩
    rw [if_pos rfl, inV_strs]
    exact k _ G H (.refl hs) (.bl _)
/-- x in A, A a list or tuple of the module's top -/
theorem PR_inK {s : Str} {a : Addr} {ss : List Str} (hK : ∀ H, SqL K H a (ss.map .str) ∨ SqT K H a (ss.map .str)) (h : PR ta σ G (.str s)) : PR (tOp (rIn K false) ta (tC (.ref a))) σ G (.bool (ss.any fun z => decide (z = s))) := fun H Q hs k =>
  h H _ hs fun x G1 H1 e1 dx => by
    cases dx
    refine ⟨_, _, rfl, hK _, rfl, flat_strs ss, ?_⟩
    rw [if_neg (by decide), inV_strs]
    exact k _ G1 H1 e1 (.bl _)
/-! ### patterns -/
/-- from a thing that stands for d the target goes to the slots that S tells -/
def Gp (g : TG) (σ : L2.St) (d : PyData) (S : Hp → L2.St → Prop) : Prop := ∀ (x : V) (G1 H : Hp) (k : L2.St → Hp → Prop), Dq G1 x d → Same G1 H → (∀ σ', S G1 σ' → k σ' H) → g x σ H k
/-- the same of a row of things -/
def Gps (t : TGs) (σ : L2.St) (ds : List PyData) (S : Hp → L2.St → Prop) : Prop := ∀ (xs : List V) (G1 H : Hp) (k : L2.St → Hp → Prop), DqAll G1 xs ds → Same G1 H → (∀ σ', S G1 σ' → k σ' H) → t xs σ H k
theorem Gp_nm {n : Nat} : Gp (gName n) σ d (fun G σ' => ∃ v, Dq G v d ∧ σ' = σ.set n (some v)) := fun x G1 H k dx hs h => h _ ⟨x, dx, rfl⟩
theorem Gps_nil : Gps gNil σ [] (fun _ σ' => σ' = σ) := fun xs G1 H k dx hs h => by
  cases dx
  exact ⟨rfl, h σ rfl⟩
theorem Gps_cons {g : TG} {t : TGs} {ds : List PyData} {S1 : Hp → L2.St → Prop} {S2 : L2.St → Hp → L2.St → Prop} (h : Gp g σ d S1) (r : ∀ σ', Gps t σ' ds (S2 σ')) : Gps (gCons g t) σ (d :: ds) (fun G σ2 => ∃ σ1, S1 G σ1 ∧ S2 σ1 G σ2) := fun xs G1 H k dx hs q => by
  cases dx with
  | cons h1 h2 => exact ⟨_, _, rfl, h _ G1 H _ h1 hs fun σ1 s1 => r σ1 _ G1 H _ h2 hs fun σ2 s2 => q σ2 ⟨σ1, s1, s2⟩⟩
theorem Gp_tup {t : TGs} {ds : List PyData} {S : Hp → L2.St → Prop} {n : Nat} (h : Gps t σ ds S) (hn : ds.length = n) : Gp (gTup K n t) σ (.tuple ds) S := fun x G1 H k dx hs q => by
  cases dx with
  | tup ha hall => exact ⟨_, _, rfl, SqT.of (hs _ _ ha), hall.len.trans hn, h _ G1 H k hall hs q⟩
/-- a list or a tuple -/
def gSeq (K : PySem.W.Frag) (n : Nat) (t : TGs) : TG := fun v σ H Q => gTup K n t v σ H Q ∨ gLst K n t v σ H Q
def seqOf : PyData → Option (List PyData)
  | .list ds => some ds
  | .tuple ds => some ds
  | _ => none
theorem Gp_seq {t : TGs} {ds : List PyData} {S : Hp → L2.St → Prop} {n : Nat} (h : Gps t σ ds S) (hn : ds.length = n) (hd : seqOf d = some ds) : Gp (gSeq K n t) σ d S := fun x G1 H k dx hs q => by
  cases dx with
  | tup ha hall => cases hd; exact .inl ⟨_, _, rfl, SqT.of (hs _ _ ha), hall.len.trans hn, h _ G1 H k hall hs q⟩
  | lst ha hall => cases hd; exact .inr ⟨_, _, rfl, SqL.of (hs _ _ ha), hall.len.trans hn, h _ G1 H k hall hs q⟩
  | _ => cases hd
theorem pg_seq {X : Cx} {es : List Expr} {k : Nat} {t : TGs} {n : Nat} {pos : Pos} (h1 : PG X (.Tuple es k pos) (gTup K n t)) (h2 : PG X (.Tuple es k pos) (gLst K n t)) : PG X (.Tuple es k pos) (gSeq K n t) :=
  ⟨fun pins s σ H v u Q I r h => h.elim (h1.run pins s σ H v u Q I r) (h2.run pins s σ H v u Q I r)⟩
/-- the turns of a for over any target -/
theorem for_pt {J : It} {G : Hp} {ds : List PyData} {g : TG} {tb : TS} {D : Ends} {σ : L2.St} {H : Hp} (dw : DW J G ds) (Pv : Nat → L2.St → Hp → Prop) (h0 : Pv 0 σ H) (hG : ∀ j σ H, j ≤ ds.length → Pv j σ H → Same G H)
    (hs : ∀ j d x σ H H', ds[j]? = some d → Pv j σ H → Same H H' → (∀ G1, Same G G1 → Same G1 H → ∃ G2, Ext G1 H G2 H' ∧ Dq G2 x d) → g x σ H' fun σ2 H2 => tb { D with nx := Pv (j + 1), ct := Pv (j + 1), bk := D.nx } σ2 H2) (hd : ∀ σ H, Pv ds.length σ H → D.nx σ H) :
    ∃ W : Nat → Nat → L2.St → Hp → Prop, (∃ m, W 0 m σ H) ∧ ∀ j m σ H, W j m σ H → (J.stop j H ∧ D.nx σ H) ∨ (J.go j H ∧ ∃ N : L2.St → Hp → Prop, (∀ σ' H', N σ' H' → ∃ m', m' < m ∧ W (j + 1) m' σ' H') ∧
      ∀ x H', J.yld j H x H' → g x σ H' fun σ2 H2 => tb { D with nx := N, ct := N, bk := D.nx } σ2 H2) :=
  for_it dw.w Pv h0 hG (fun j x σ H H' _ p ⟨d, a, b, c⟩ => hs j d x σ H H' a p b c) hd
/-- a tuple of what one has: unpacked -/
theorem tSetP_use {te : TE} {g : TG} {D : Ends} {σ : L2.St} {G H : Hp} {d : PyData} {S : Hp → L2.St → Prop} (hs : Same G H) (h : PR te σ G d) (hg : Gp g σ d S) (k : ∀ σ' G' H', Ext G H G' H' → S G' σ' → D.nx σ' H') : tAsg te g D σ H :=
  h H _ hs fun v G' H' e dv => hg v G' H' _ dv e.gh fun σ' s => k σ' G' H' e s
theorem tAsg_use {te : TE} {g : TG} {D : Ends} {σ : L2.St} {G H : Hp} {d : PyData} (hs : Same G H) (h : PR te σ G d) (k : ∀ v G' H', Ext G H G' H' → Dq G' v d → g v σ H' D.nx) : tAsg te g D σ H := h H _ hs k
/-! ### fields -/
theorem PR_fld {C : Addr} {xs : List Str} {ds : List PyData} {f : Str} {n : Nat} (c : Cls K C) (no : NoAttr K C f) (h : PR ta σ G (insD C xs ds)) (hl : ∀ vs : List V, vs.length = ds.length → (xs.zip vs).lookup f = vs[n]?) (hd : ds[n]? = some d) : PR (tFld K ta f) σ G d := fun H Q hs k =>
  h H _ hs fun v G1 H1 e1 dv => by
    obtain ⟨a, dx, vs, rfl, h1, h2, h3, h4⟩ := dv.insE
    obtain ⟨x, q1, q2⟩ := h4.at' hd
    exact ⟨a, C, dx, _, x, rfl, e1.gh _ _ h1, c, no, (hl vs h4.len).trans q1, k _ G1 H1 e1 q2⟩
end
section
variable {X : Cx} {K : PySem.W.Frag} {a b c e : Expr} {ta tb tc te : TE} {p q pos p2 p3 p4 : Pos}
theorem xe_slFrom (ha : PE X a ta) (hb : PE X b tb) (hK : X.K = K := by rfl) : PE X (.Subscript a (.Slice (some b) none none p2) pos) (tSl (rSlL K) ta (tPart tb) tNoPart) := hK ▸ pe_slice sl_list ha (po_some hb) po_none
theorem xe_slToT (ha : PE X a ta) (hb : PE X b tb) (hK : X.K = K := by rfl) : PE X (.Subscript a (.Slice none (some b) none p2) pos) (tSl (rSlA K) ta tNoPart (tPart tb)) := hK ▸ pe_slice sl_tupA ha po_none (po_some hb)
theorem xe_slFromT (ha : PE X a ta) (hb : PE X b tb) (hK : X.K = K := by rfl) : PE X (.Subscript a (.Slice (some b) none none p2) pos) (tSl (rSlA K) ta (tPart tb) tNoPart) := hK ▸ pe_slice sl_tupA ha (po_some hb) po_none
theorem xe_inS (ha : PE X a ta) (hb : PE X b tb) (hK : X.K = K := by rfl) (hm : behindInMarks .In b = false := by rfl) : PE X (.Compare a [.In] [b] pos) (tOp (rIn K false) ta tb) := hK ▸ pe_cmpR op_in_seq ha hb hm
theorem xe_notinS (ha : PE X a ta) (hb : PE X b tb) (hK : X.K = K := by rfl) (hm : behindInMarks .NotIn b = false := by rfl) : PE X (.Compare a [.NotIn] [b] pos) (tOp (rIn K true) ta tb) := hK ▸ pe_cmpR op_notIn_seq ha hb hm
theorem xt_inS (ha : PE X a ta) (hb : PE X b tb) (hK : X.K = K := by rfl) (hm : behindInMarks .In b = false := by rfl) : PT X (.Compare a [.In] [b] pos) (tTest (tOp (rIn K false) ta tb)) := hK ▸ pt_cmpR op_in_seq ha hb hm
theorem xt_notinS (ha : PE X a ta) (hb : PE X b tb) (hK : X.K = K := by rfl) (hm : behindInMarks .NotIn b = false := by rfl) : PT X (.Compare a [.NotIn] [b] pos) (tTest (tOp (rIn K true) ta tb)) := hK ▸ pt_cmpR op_notIn_seq ha hb hm
theorem xe_isN (ha : PE X a ta) : PE X (.Compare a [.Is] [.Constant .none 0 p2] pos) (tOp (fun x y H Q => y = .non ∧ Q (.bl (decide (x = .non))) H) ta (tC .non)) := pe_cmpR op_isN ha pe_non (nomark _)
theorem xe_fld {f : Str} (he : PE X e te) (hb : attributeBase e f X.env (eval e X.env) = eval e X.env := by rfl) (hK : X.K = K := by rfl) : PE X (.Attribute e f pos) (tFld K te f) := hK ▸ pe_fld he hb
theorem xe_isiC {T : Str} {C : Addr} (m : X.mg "isinstance" = none) (mT : X.mg T = some (.ref C)) (ha : PE X e te) (hg : Gl X "isinstance" := by rfl) (hT : Gl X T := by rfl) (hK : X.K = K := by rfl) (hd : (T == ("__debug__" : Str)) = false := by decide)
    (hs : starEach [e, .Name T q] X.env = (false, eval e X.env) :: starEach [.Name T q] X.env := by rfl) (hs2 : starEach [.Name T q] X.env = (false, eval (.Name T q) X.env) :: starEach [] X.env := by rfl)
    (hpl : (backTo pos (starEach [.Name T q] X.env)).any (·.1) = false := by rfl) :
    PE X (.Call (.Name "isinstance" p) [e, .Name T q] [] pos) (tCB (rIsi K) (tCons te (tCons (tC (.ref C)) tNil))) :=
  hK ▸ pe_callB (call_isi (X := X)) hg m (by decide +kernel) (pa_cons ha (pa_cons (pe_glob (v := .ref C) hT mT rfl hd) pa_nil hs2) hs) (he := hs) (hpl := hpl)
end
end PD
set_option Elab.async false
set_option linter.all false
set_option maxRecDepth 100000
set_option maxHeartbeats 4000000
/-! K50a: the text by places; what rows, numbers, layers are -/
namespace K50
open PySem PySem.Spec PyProof.Rows L2 PD StX RZ
def top (i : Nat) : Stmt := PySem.Challenge.pw_roadheld_k50_whole_mends_made.main.body.getD i (.Pass ⟨0, 0, 0, 0⟩)
abbrev sIsInt : Stmt := top 1
abbrev sIsNum : Stmt := top 2
abbrev sIsList : Stmt := top 3
abbrev sIsRow : Stmt := top 4
abbrev sUnlike : Stmt := top 5
abbrev sIsWord : Stmt := top 17
abbrev sIsPart : Stmt := top 19
abbrev sIsPL : Stmt := top 20
abbrev sArePL : Stmt := top 21
abbrev sKeptL : Stmt := top 24
section
variable {P : Program} {w : World} {K : PySem.W.Frag} {mg : Str → Option Value} {base : Heap}
def isSeq : PyData → Bool
  | .list _ => true
  | .tuple _ => true
  | _ => false
theorem isSeq_eq (d : PyData) : (isL d || isT d) = isSeq d := by cases d <;> rfl
def itemsD : PyData → List PyData
  | .list ds => ds
  | .tuple ds => ds
  | _ => []
/-! ### is_integer -/
def isInt : PyData → Bool
  | .int _ => true
  | _ => false
def numD : PyData → Bool
  | .int i => decide (0 ≤ i)
  | _ => false
abbrev fArg (F : PyData → PyData) (ok : PyData → Prop) : List PyData → PyData → Prop := fun ds d => ∃ a, ds = [a] ∧ d = F a ∧ ok a
abbrev Pln (a : PyData) : Prop := plain a = true
theorem scIsInt : FnScope ["thing"] ["thing"] (defScope sIsInt) := ⟨rfl, rfl, rfl, by decide +kernel, rfl, by decide +kernel, by decide +kernel⟩
abbrev FIsInt (P : Program) (w : World) (K : PySem.W.Frag) (mg : Str → Option Value) (base : Heap) : Prop := Fn P w K mg base CX0 "is_integer" 1 1 (spP (fArg (fun a => .bool (isInt a)) Pln))
theorem fn_isInt (D : Df K mg "is_integer" sIsInt) (m1 : mg "isinstance" = none) (m2 : mg "int" = none) (m3 : mg "bool" = none) : FIsInt P w K mg base := by
  refine D.pure scIsInt (by rintro ds d ⟨a, rfl, _⟩; rfl) rfl (fun _ _ _ _ _ _ us hl => match us, hl with | [_], _ => rfl) fun f cdv A outer s H E G vs ds d Q hr hG hv hD k => ?_
  obtain ⟨a, rfl, rfl, hp⟩ := hD
  obtain ⟨v, rfl, da⟩ := hv.one
  refine ⟨_, pss_one (ps_ret (pe_and (xe_isi (K := K) (U := "int") m1 m2 (by decide +kernel) (pv 0)) (pe_one (pe_not (xe_isi (K := K) (U := "bool") m1 m3 (by decide +kernel) (pv 0)))))), ?_⟩
  exact (PR_andV (PR_isi (PV da) (kitI a) hp) fun _ => PR_notV (PR_isi (PV da) (kitBo a) hp)).eq (by cases a <;> rfl) H Q hG k
/-! ### is_number -/
theorem scIsNum : FnScope ["thing"] ["thing"] (defScope sIsNum) := ⟨rfl, rfl, rfl, by decide +kernel, rfl, by decide +kernel, by decide +kernel⟩
abbrev FIsNum (P : Program) (w : World) (K : PySem.W.Frag) (mg : Str → Option Value) (base : Heap) : Prop := Fn P w K mg base CX0 "is_number" 2 1 (spP (fArg (fun a => .bool (numD a)) Pln))
theorem fn_isNum (D : Df K mg "is_number" sIsNum) (FI : FIsInt P w K mg base) : FIsNum P w K mg base := by
  refine D.pure scIsNum (by rintro ds d ⟨a, rfl, _⟩; rfl) rfl (fun _ _ _ _ _ _ us hl => match us, hl with | [_], _ => rfl) fun f cdv A outer s H E G vs ds d Q hr hG hv hD k => ?_
  obtain ⟨a, rfl, rfl, hp⟩ := hD
  obtain ⟨v, rfl, da⟩ := hv.one
  refine ⟨_, pss_one (ps_ret (pe_and (pe_fn FI hr (by rfl) pass0 (pa_cons (pv 0) pa_nil)) (pe_one (pe_cmpR op_ge (pv 0) pe_int (nomark _))))), ?_⟩
  cases a with
  | int i => exact (PR_andV (b := true) (c := decide (0 ≤ i)) (PR_call (PRA_one (PV da)) ⟨_, rfl, rfl, rfl⟩) fun _ => PR_op RR2_geI (PV da) PR_int).eq (by rw [Bool.true_and]; rfl) H Q hG k
  | _ => exact (PR_andV (b := false) (c := false) (PR_call (PRA_one (PV da)) ⟨_, rfl, rfl, hp⟩) fun h => by cases h).eq rfl H Q hG k
/-! ### is_list, is_row -/
theorem scIsList : FnScope ["thing"] ["thing"] (defScope sIsList) := ⟨rfl, rfl, rfl, by decide +kernel, rfl, by decide +kernel, by decide +kernel⟩
abbrev FIsList (P : Program) (w : World) (K : PySem.W.Frag) (mg : Str → Option Value) (base : Heap) : Prop := Fn P w K mg base CX0 "is_list" 1 1 (spP (fArg (fun a => .bool (isSeq a)) Pln))
theorem fn_isList (D : Df K mg "is_list" sIsList) (m1 : mg "isinstance" = none) (m2 : mg "list" = none) (m3 : mg "tuple" = none) : FIsList P w K mg base := by
  refine D.pure scIsList (by rintro ds d ⟨a, rfl, _⟩; rfl) rfl (fun _ _ _ _ _ _ us hl => match us, hl with | [_], _ => rfl) fun f cdv A outer s H E G vs ds d Q hr hG hv hD k => ?_
  obtain ⟨a, rfl, rfl, hp⟩ := hD
  obtain ⟨v, rfl, da⟩ := hv.one
  refine ⟨_, pss_one (ps_ret (xe_isi2 (K := K) (U := "list") (U' := "tuple") m1 m2 m3 (by decide +kernel) (by decide +kernel) (pv 0))), ?_⟩
  exact (PR_isi2 (PV da) (kitL a) (kitT a) hp).eq (by rw [isSeq_eq]) H Q hG k
def rowD (n : Nat) (a : PyData) : Bool := isSeq a && decide ((itemsD a).length = n)
abbrev nRow : List Str := ["thing", "many"]
theorem scIsRow : FnScope nRow ["thing", "many"] (defScope sIsRow) := ⟨rfl, rfl, rfl, by decide +kernel, rfl, by decide +kernel, by decide +kernel⟩
def DRow (ds : List PyData) (d : PyData) : Prop := ∃ (a : PyData) (n : Nat), ds = [a, .int n] ∧ d = .bool (rowD n a) ∧ Pln a
abbrev FIsRow (P : Program) (w : World) (K : PySem.W.Frag) (mg : Str → Option Value) (base : Heap) : Prop := Fn P w K mg base CX0 "is_row" 2 2 (spP DRow)
theorem PR_len {σ : L2.St} {G : Hp} {te : TE} {a : PyData} (h : PR te σ G a) (hs : isSeq a = true) : PR (tCB (rLenQ K) (tCons te tNil)) σ G (.int (itemsD a).length) := by
  cases a with
  | list ds => exact PR_CB RR_lenL (PRA_one h)
  | tuple ds => exact PR_CB RR_lenT (PRA_one h)
  | _ => cases hs
theorem fn_isRow (D : Df K mg "is_row" sIsRow) (FL : FIsList P w K mg base) (m1 : mg "len" = none) : FIsRow P w K mg base := by
  refine D.pure scIsRow (by rintro ds d ⟨a, n, rfl, _⟩; rfl) rfl (fun _ _ _ _ _ _ us hl => match us, hl with | [_, _], _ => rfl) fun f cdv A outer s H E G vs ds d Q hr hG hv hD k => ?_
  obtain ⟨a, n, rfl, rfl, hp⟩ := hD
  obtain ⟨v, u, rfl, dv, du⟩ := hv.two
  refine ⟨_, pss_one (ps_ret (pe_and (pe_fn FL hr (by rfl) pass0 (pa_cons (pv 0) pa_nil)) (pe_one (pe_cmpR op_eq (xe_len (K := K) m1 (pv 0)) (pv 1) (nomark _))))), ?_⟩
  refine (PR_andV (PR_call (PRA_one (PV dv)) ⟨_, rfl, rfl, hp⟩) fun h => PR_op RR2_eqI (PR_len (PV dv) h) (PV du)).eq ?_ H Q hG k
  unfold rowD
  congr 2
  exact decide_eq_decide.mpr Int.ofNat_inj
/-! ### are_unlike -/
def enumN : Nat → List PyData → List (Nat × PyData)
  | _, [] => []
  | k, d :: ds => (k, d) :: enumN (k + 1) ds
def encN (b : Nat × PyData) : PyData := .tuple [.int b.1, b.2]
theorem enumD_eq : ∀ (k : Nat) (ds : List PyData), enumD k ds = (enumN k ds).map encN
  | _, [] => rfl
  | k, d :: ds => by rw [enumD, enumN, List.map_cons, enumD_eq (k + 1) ds]; rfl
theorem enumN_mem : ∀ {k : Nat} {ds : List PyData} {b : Nat × PyData}, b ∈ enumN k ds → b.2 ∈ ds
  | _, [], b, h => by simp [enumN] at h
  | k, d :: ds, b, h => by
    rw [enumN] at h
    rcases List.mem_cons.mp h with rfl | h
    · exact List.mem_cons_self ..
    · exact List.mem_cons_of_mem _ (enumN_mem h)
theorem enumN_len : ∀ (k : Nat) (ds : List PyData), (enumN k ds).length = ds.length
  | _, [] => rfl
  | k, d :: ds => by simp [enumN, enumN_len (k + 1) ds]
def hasD (ds : List PyData) (d : PyData) : Bool := ds.any fun z => PyData.eqv z d
def unlikeD (ds : List PyData) : Bool := (enumN 0 ds).all fun b => !hasD (ds.take b.1) b.2
abbrev nUnlike : List Str := ["things", "index", "thing"]
theorem scUnlike : FnScope nUnlike ["things"] (defScope sUnlike) := ⟨rfl, rfl, rfl, by decide +kernel, rfl, by decide +kernel, by decide +kernel⟩
abbrev FUnlike (P : Program) (w : World) (K : PySem.W.Frag) (mg : Str → Option Value) (base : Heap) : Prop := Fn P w K mg base CX0 "are_unlike" 1 1 (spP fun ds d => ∃ xs, ds = [.list xs] ∧ d = .bool (unlikeD xs) ∧ ShL 10 xs ∧ xs.length ≤ 1000)
theorem fn_unlike (D : Df K mg "are_unlike" sUnlike) (m1 : mg "all" = none) (m2 : mg "enumerate" = none) : FUnlike P w K mg base := by
  refine D.pure scUnlike (by rintro ds d ⟨a, rfl, _⟩; rfl) rfl (fun _ _ _ _ _ _ us hl => match us, hl with | [_], _ => rfl) fun f cdv A outer s H E G vs ds d Q hr hG hv hD k => ?_
  obtain ⟨xs, rfl, rfl, hs, hz⟩ := hD
  obtain ⟨v, rfl, da⟩ := hv.one
  have hu := hr.u65
  refine ⟨_, pss_one (ps_ret (xe_all (K := K) m1
    (pe_lc (own := [("index", 1), ("thing", 2)]) (g := gTup K 2 (gCons (gName 1) (gCons (gName 2) gNil))) (tt := tYes) rfl scUnlike.nd (pi_enum (by rfl) m2 (pa_cons (pv 0) pa_nil)) (blkOk_by (N := nUnlike) (sc := defScope sUnlike) (by decide +kernel))
      (fun _ _ _ _ _ => pg_tup rfl (pgs_cons (pg_name (i := 1) scUnlike.nd rfl (.inl rfl)) (pgs_cons (pg_name (i := 2) scUnlike.nd rfl (.inl rfl)) pgs_nil))) (fun _ _ _ _ _ => pts_nil)
      (fun _ _ _ _ _ => xe_notin (K := K) hu (pv 2) (xe_slTo (K := K) (pv 0) (pv 1)))))), ?_⟩
  refine (PR_all (bs := enumN 0 xs) (q := fun b => !hasD (xs.take b.1) b.2) (PR_map2 (enc := encN) (e1 := fun b => .int b.1) (e2 := fun b => b.2) (fun _ _ => rfl) ?_ (fun _ _ => rfl) (fun G1 b v u h1 hb dv du => ?_) (by rw [enumN_len, sizeLine_eq]; omega))) H Q hG k
  · rw [← enumD_eq]
    exact WR_enum (PRA_one (PV da))
  · have hb2 := enumN_mem hb
    have hx : ShL 10 (xs.take b.1) := fun d hd => hs d (List.mem_of_mem_take hd)
    exact PR_op (RR2_notin ((hs _ hb2).shaped (by decide)) (hx.list.shaped (by decide))) (PV du) (PR_slTo (PV (da.up h1)) (PV dv))
/-! ### layers of parts -/
/-- an item of a row -/
theorem RR2_item {a d : PyData} {j : Nat} (hs : isSeq a = true) (hj : (itemsD a)[j]? = some d) : RR2 (rIx K) a (.int j) d := fun x y G H Q hq h1 h2 k => by
  cases a with
  | list ds => exact .inl (RR2_ixL hj x y G H Q hq h1 h2 k)
  | tuple ds => exact .inr (.inl (RR2_ixT hj x y G H Q hq h1 h2 k))
  | _ => cases hs
theorem xe_item {X : Cx} {a b : Expr} {ta tb : TE} {pos : Pos} (ha : PE X a ta) (hb : PE X b tb) (hs : PlainIx b := by exact fun _ _ => rfl) (hK : X.K = K := by rfl) : PE X (.Subscript a b pos) (tOp (rIx K) ta tb) := hK ▸ pe_ix ix_seq ha hb hs
theorem items_at {a : PyData} {n j : Nat} (h : rowD n a = true) (hj : j < n) : ∃ d, (itemsD a)[j]? = some d := by
  unfold rowD at h
  rw [Bool.and_eq_true] at h
  have := of_decide_eq_true h.2
  exact ⟨_, List.getElem?_eq_getElem (by omega)⟩
/-- the item at j of a row, None beyond -/
def at_ (a : PyData) (j : Nat) : PyData := ((itemsD a)[j]?).getD .none
theorem at_of {a : PyData} {n j : Nat} (h : rowD n a = true) (hj : j < n) : (itemsD a)[j]? = some (at_ a j) := by
  obtain ⟨d, e⟩ := items_at h hj
  rw [at_, e]; rfl
theorem rowD_seq {a : PyData} {n : Nat} (h : rowD n a = true) : isSeq a = true := by
  unfold rowD at h
  exact (Bool.and_eq_true _ _ ▸ h).1
/-- any object that comes: data so deep at most, or {} -/
def Obj (k : Nat) (a : PyData) : Prop := Sh k a ∨ a = .dict []
theorem shPlain {k : Nat} {a : PyData} (h : Sh k a) : Pln a := by
  cases a with
  | dict ps => exact absurd h.1 (by simp [PyData.canLay0])
  | _ => rfl
theorem Obj.plain {k : Nat} {a : PyData} (h : Obj k a) : Pln a := h.elim shPlain fun e => by subst e; rfl
theorem Sh.sub {k : Nat} {a d : PyData} (h : Sh (k + 1) a) (hd : d ∈ itemsD a) : Sh k d := by
  have go : ∀ {ds : List PyData}, PyData.canLayAll0 ds = true → PyData.depthAll ds ≤ k → d ∈ ds → Sh k d := fun {ds} => by
    induction ds with
    | nil => intro _ _ m; cases m
    | cons e es ih =>
      intro h1 h2 m
      simp only [PyData.canLayAll0, Bool.and_eq_true] at h1
      simp only [PyData.depthAll] at h2
      rcases List.mem_cons.mp m with rfl | m
      · exact ⟨h1.1, by omega⟩
      · exact ih h1.2 (by omega) m
  cases a with
  | list ds => exact go (ds := ds) (by simpa [PyData.canLay0] using h.1) (by have := h.2; simp only [PyData.depth] at this; omega) hd
  | tuple ds => exact go (ds := ds) (by simpa [PyData.canLay0] using h.1) (by have := h.2; simp only [PyData.depth] at this; omega) hd
  | _ => cases hd
theorem Obj.sub {k : Nat} {a d : PyData} (h : Obj (k + 1) a) (hd : d ∈ itemsD a) : Sh k d := h.elim (fun h => Sh.sub h hd) fun e => by subst e; cases hd
theorem Obj.at {k n j : Nat} {a : PyData} (h : Obj (k + 1) a) (hr : rowD n a = true) (hj : j < n) : Sh k (at_ a j) := h.sub (List.mem_of_getElem? (at_of hr hj))
theorem Sh.obj {k : Nat} {a : PyData} (h : Sh k a) : Obj k a := .inl h
theorem PR_it {σ : L2.St} {G : Hp} {te : TE} {a : PyData} {n : Nat} (j : Nat) (h : PR te σ G a) (hr : rowD n a = true) (hj : j < n := by decide) : PR (tOp (rIx K) te (tC (.int j))) σ G (at_ a j) := PR_op (RR2_item (rowD_seq hr) (at_of hr hj)) h PR_int
def isStr (s : Str) : PyData → Bool
  | .str x => decide (x = s)
  | _ => false
/-- an int from lo to hi -/
def btw (lo hi : Int) : PyData → Bool
  | .int i => decide (lo ≤ i) && decide (i ≤ hi)
  | _ => false
def wordD (a : PyData) : Bool := rowD 2 a && (isStr "word" (at_ a 0) && btw 0 9 (at_ a 1))
theorem scIsWord : FnScope ["thing"] ["thing"] (defScope sIsWord) := ⟨rfl, rfl, rfl, by decide +kernel, rfl, by decide +kernel, by decide +kernel⟩
abbrev FIsWord (P : Program) (w : World) (K : PySem.W.Frag) (mg : Str → Option Value) (base : Heap) : Prop := Fn P w K mg base CX0 "is_word" 3 1 (spP (fArg (fun a => .bool (wordD a)) (Obj 9)))
theorem tRet_bl {G H : Hp} {b : Bool} {D : Ends} {σ : L2.St} (hs : Same G H) (k : ∀ v G' H', Ext G H G' H' → Dq G' v (.bool b) → D.rt v H') : tRet (tC (.bl b)) D σ H := tRet_use hs PR_bl k
theorem fn_isWord (D : Df K mg "is_word" sIsWord) (FR : FIsRow P w K mg base) (FI : FIsInt P w K mg base) (m1 : mg "isinstance" = none) (m2 : mg "str" = none) : FIsWord P w K mg base := by
  refine D.pure scIsWord (by rintro ds d ⟨a, rfl, _⟩; rfl) rfl (fun _ _ _ _ _ _ us hl => match us, hl with | [_], _ => rfl) fun f cdv A outer s H E G vs ds d Q hr hG hv hD k => ?_
  obtain ⟨a, rfl, rfl, hp⟩ := hD
  have k : ∀ v G' H', Ext G H G' H' → Dq G' v (.bool (wordD a)) → Q v H' := k
  obtain ⟨v, rfl, da⟩ := hv.one
  refine ⟨_, pss_cons (ps_if (PW.pt (pw_or (pt_not (pt_val (pe_fn FR hr (by rfl) pass0 (pa_cons (pv 0) (pa_cons pe_int pa_nil))))) (pw_or (pt_not (pt_val (xe_isi (K := K) (U := "str") m1 m2 (by decide +kernel) (xe_item (K := K) (pv 0) pe_int)))) (pw_or1 (pt_cmpR op_ne (xe_item (K := K) (pv 0) pe_int) pe_str (nomark _)))))) (pss_one (ps_ret pe_bl)) pss_nil)
    (pss_one (ps_ret (pe_and (pe_fn FI (hr.mono (by decide)) (by rfl) pass0 (pa_cons (xe_item (K := K) (pv 0) pe_int) pa_nil)) (pe_one (pe_chain op_le op_le pe_int (xe_item (K := K) (pv 0) pe_int) pe_int))))), ?_⟩
  refine tIf_use (b := !rowD 2 a || (!isS (at_ a 0) || !isStr "word" (at_ a 0))) (TR_or (TR_not (TR_tB (PR_call (PRA_two (PV da) (PR_int (i := 2))) ⟨a, 2, rfl, rfl, hp.plain⟩))) fun h1 => ?_) hG fun H1 e1 => ?_
  · have h1 : rowD 2 a = true := by simpa using h1
    have hi := PR_it (K := K) 0 (PV (σ := [some v]) (i := 0) da) h1
    refine TR_or (TR_not (TR_tB (PR_isi hi (kitS _) (shPlain (hp.at h1 (by decide)))))) fun h2 => ?_
    have h2 : isS (at_ a 0) = true := by simpa using h2
    revert hi h2
    generalize at_ a 0 = e
    intro hi h2
    cases e with
    | str x => exact (TR_test (PR_op RR2_neS hi PR_str)).eq (by simp [isStr])
    | _ => cases h2
  have hq : (!rowD 2 a || (!isS (at_ a 0) || !isStr "word" (at_ a 0))) = !(rowD 2 a && isStr "word" (at_ a 0)) := by
    cases at_ a 0 <;> simp [isS, isStr]
  rw [hq]
  cases hb : rowD 2 a && isStr "word" (at_ a 0) with
  | false =>
    refine iteT (tRet_bl (hG.trans e1) fun v G' H' x dv => k v G' H' ((Ext.more hG e1).trans x) ?_)
    have e : wordD a = false := by unfold wordD; rw [← Bool.and_assoc, hb]; rfl
    rw [e]; exact dv
  | true =>
    rw [Bool.and_eq_true] at hb
    refine iteF (nxt ?_)
    have hi := PR_it (K := K) 1 (PV (σ := [some v]) (i := 0) da) hb.1
    have hpl := shPlain (hp.at hb.1 (j := 1) (by decide))
    have e : wordD a = btw 0 9 (at_ a 1) := by unfold wordD; rw [hb.1, hb.2]; rfl
    rw [e] at k
    revert hi hpl k
    generalize at_ a 1 = u
    intro k hi hpl
    cases u with
    | int i => exact tRet_use (hG.trans e1) (PR_andV (b := true) (PR_call (PRA_one hi) ⟨_, rfl, rfl, hpl⟩) fun _ => PR_chain RR2_leI RR2_leI PR_int hi PR_int) fun v G' H' x dv => k v G' H' ((Ext.more hG e1).trans x) dv
    | _ => exact tRet_use (hG.trans e1) (PR_andV (b := false) (c := false) (PR_call (PRA_one hi) ⟨_, rfl, rfl, hpl⟩) fun h => by cases h) fun v G' H' x dv => k v G' H' ((Ext.more hG e1).trans x) dv
/-! ### is_part -/
theorem scIsPart : FnScope ["thing"] ["thing"] (defScope sIsPart) := ⟨rfl, rfl, rfl, by decide +kernel, rfl, by decide +kernel, by decide +kernel⟩
abbrev FIsPart (P : Program) (w : World) (K : PySem.W.Frag) (mg : Str → Option Value) (base : Heap) : Prop := Fn P w K mg base CX0 "is_part" 3 1 (spP (fArg (fun a => .bool (btw 0 1 a)) Pln))
theorem fn_isPart (D : Df K mg "is_part" sIsPart) (FI : FIsNum P w K mg base) : FIsPart P w K mg base := by
  refine D.pure scIsPart (by rintro ds d ⟨a, rfl, _⟩; rfl) rfl (fun _ _ _ _ _ _ us hl => match us, hl with | [_], _ => rfl) fun f cdv A outer s H E G vs ds d Q hr hG hv hD k => ?_
  obtain ⟨a, rfl, rfl, hp⟩ := hD
  have k : ∀ v G' H', Ext G H G' H' → Dq G' v (.bool (btw 0 1 a)) → Q v H' := k
  obtain ⟨v, rfl, da⟩ := hv.one
  refine ⟨_, pss_one (ps_ret (pe_and (pe_fn FI hr (by rfl) pass0 (pa_cons (pv 0) pa_nil)) (pe_one (pe_cmpR op_le (pv 0) pe_int (nomark _))))), ?_⟩
  cases a with
  | int i => exact (PR_andV (b := decide (0 ≤ i)) (c := decide (i ≤ 1)) (PR_call (PRA_one (PV da)) ⟨_, rfl, rfl, rfl⟩) fun _ => PR_op RR2_leI (PV da) PR_int) H Q hG k
  | _ => exact (PR_andV (b := false) (c := false) (PR_call (PRA_one (PV da)) ⟨_, rfl, rfl, hp⟩) fun h => by cases h) H Q hG k
/-! ### is_part_layer -/
def kinds : List Str := ["cipher", "seal", "label"]
def kindD : PyData → Bool
  | .str x => kinds.any fun z => decide (z = x)
  | _ => false
def plD (a : PyData) : Bool := wordD a || (rowD 2 a && (kindD (at_ a 0) && btw 0 1 (at_ a 1)))
theorem scIsPL : FnScope ["thing"] ["thing"] (defScope sIsPL) := ⟨rfl, rfl, rfl, by decide +kernel, rfl, by decide +kernel, by decide +kernel⟩
abbrev FIsPL (P : Program) (w : World) (K : PySem.W.Frag) (mg : Str → Option Value) (base : Heap) : Prop := Fn P w K mg base CX0 "is_part_layer" 4 1 (spP (fArg (fun a => .bool (plD a)) (Obj 9)))
/-- KINDS of the module's top -/
structure TKinds (K : PySem.W.Frag) (mg : Str → Option Value) (a : Addr) : Prop where
  gl : mg "KINDS" = some (.ref a)
  it : ∀ H, SqL K H a (kinds.map .str) ∨ SqT K H a (kinds.map .str)
theorem fn_isPL {aK : Addr} (D : Df K mg "is_part_layer" sIsPL) (TK : TKinds K mg aK) (FW : FIsWord P w K mg base) (FR : FIsRow P w K mg base) (FI : FIsPart P w K mg base) (m1 : mg "isinstance" = none) (m2 : mg "str" = none) : FIsPL P w K mg base := by
  refine D.pure scIsPL (by rintro ds d ⟨a, rfl, _⟩; rfl) rfl (fun _ _ _ _ _ _ us hl => match us, hl with | [_], _ => rfl) fun f cdv A outer s H E G vs ds d Q hr hG hv hD k => ?_
  obtain ⟨a, rfl, rfl, hp⟩ := hD
  have k : ∀ v G' H', Ext G H G' H' → Dq G' v (.bool (plD a)) → Q v H' := k
  obtain ⟨v, rfl, da⟩ := hv.one
  refine ⟨_, pss_cons (ps_if (pt_val (pe_fn FW hr (by rfl) pass0 (pa_cons (pv 0) pa_nil))) (pss_one (ps_ret pe_bl)) pss_nil)
    (pss_one (ps_ret (pe_and (pe_fn FR (hr.mono (by decide)) (by rfl) pass0 (pa_cons (pv 0) (pa_cons pe_int pa_nil))) (pe_and (xe_isi (K := K) (U := "str") m1 m2 (by decide +kernel) (xe_item (K := K) (pv 0) pe_int))
      (pe_and (xe_inS (K := K) (xe_item (K := K) (pv 0) pe_int) (pe_glob (v := .ref aK) rfl TK.gl rfl)) (pe_one (pe_fn FI hr (by rfl) pass0 (pa_cons (xe_item (K := K) (pv 0) pe_int) pa_nil)))))))), ?_⟩
  refine tIf_use (TR_tB (PR_call (PRA_one (PV da)) ⟨a, rfl, rfl, hp⟩)) hG fun H1 e1 => ?_
  unfold plD at k
  cases hw : wordD a with
  | true =>
    rw [hw, Bool.true_or] at k
    exact iteT (tRet_bl (hG.trans e1) fun v G' H' x dv => k v G' H' ((Ext.more hG e1).trans x) dv)
  | false =>
    rw [hw, Bool.false_or] at k
    refine iteF (nxt ?_)
    dsimp only
    refine tRet_use (d := .bool (rowD 2 a && (kindD (at_ a 0) && btw 0 1 (at_ a 1)))) (hG.trans e1) ?_ fun v G' H' x dv => k v G' H' ((Ext.more hG e1).trans x) dv
    refine PR_andV (PR_call (PRA_two (PV da) (PR_int (i := 2))) ⟨a, 2, rfl, rfl, hp.plain⟩) fun h1 => ?_
    have h0 := PR_it (K := K) 0 (PV (σ := [some v]) (i := 0) da) h1
    have h01 := PR_it (K := K) 1 (PV (σ := [some v]) (i := 0) da) h1
    have p0 := hp.at h1 (j := 0) (by decide)
    have p1 := hp.at h1 (j := 1) (by decide)
    revert h0 h01 p0 p1
    generalize at_ a 0 = x
    generalize at_ a 1 = y
    intro h0 h01 p0 p1
    have l1 : PR (tCall (spP (fArg (fun a => .bool (btw 0 1 a)) Pln)) [] E0 (tCons (tOp (rIx K) (tVar 0) (tC (.int (1 : Nat)))) tNil)) [some v] G (.bool (btw 0 1 y)) := PR_call (PRA_one h01) ⟨y, rfl, rfl, (shPlain p1)⟩
    cases x with
    | str s => exact (PR_andV (b := true) (PR_isi h0 rfl) fun _ => PR_andV (PR_inK TK.it h0) fun _ => l1).eq (by rw [Bool.true_and]; rfl)
    | _ => exact (PR_andV (b := false) (c := false) (PR_isi h0 rfl (shPlain p0)) fun h => by cases h).eq rfl
/-! ### are_part_layers -/
def plsD (a : PyData) : Bool := isSeq a && (itemsD a).all plD
abbrev nOne : List Str := ["thing", "one"]
theorem scArePL : FnScope nOne ["thing"] (defScope sArePL) := ⟨rfl, rfl, rfl, by decide +kernel, rfl, by decide +kernel, by decide +kernel⟩
abbrev FArePL (P : Program) (w : World) (K : PySem.W.Frag) (mg : Str → Option Value) (base : Heap) : Prop := Fn P w K mg base CX0 "are_part_layers" 5 1 (spP (fArg (fun a => .bool (plsD a)) fun a => Obj 10 a ∧ (itemsD a).length ≤ 1000))
theorem WR_seq {σ : L2.St} {G : Hp} {te : TE} {a : PyData} (h : PR te σ G a) (hs : isSeq a = true) : WR (iSeq K te) σ G (itemsD a) := by
  cases a with
  | list ds => exact WR_seqL h
  | tuple ds => exact WR_seqT h
  | _ => cases hs
theorem fn_arePL (D : Df K mg "are_part_layers" sArePL) (FL : FIsList P w K mg base) (FP : FIsPL P w K mg base) (m1 : mg "all" = none) : FArePL P w K mg base := by
  refine D.pure scArePL (by rintro ds d ⟨a, rfl, _⟩; rfl) rfl (fun _ _ _ _ _ _ us hl => match us, hl with | [_], _ => rfl) fun f cdv A outer s H E G vs ds d Q hr hG hv hD k => ?_
  obtain ⟨a, rfl, rfl, hp, hz⟩ := hD
  have k : ∀ v G' H', Ext G H G' H' → Dq G' v (.bool (plsD a)) → Q v H' := k
  obtain ⟨v, rfl, da⟩ := hv.one
  refine ⟨_, pss_one (ps_ret (pe_and (pe_fn FL (hr.mono (by decide)) (by rfl) pass0 (pa_cons (pv 0) pa_nil)) (pe_one (xe_all (K := K) m1 (xe_lc1 (tt := tYes) nOne (defScope sArePL) 1 (pi_seq (pv 0)) (by decide +kernel) scArePL.nd (.inr rfl) (fun _ _ _ _ _ => pts_nil)
    (fun _ _ _ _ _ => pe_fn FP hr (by rfl) pass0 (pa_cons (pv 1) pa_nil))))))), ?_⟩
  refine (PR_andV (PR_call (PRA_one (PV da)) ⟨a, rfl, rfl, hp.plain⟩) fun h => PR_all (bs := itemsD a) (q := plD) (PR_map1 (enc := id) (by rw [List.map_id]; exact WR_seq (PV da) h) (fun _ => rfl) (fun G1 b v h1 hb dv => PR_call (PRA_one (PV dv)) ⟨b, rfl, rfl, .inl (hp.sub hb)⟩) (by rw [sizeLine_eq]; omega))) H Q hG k
/-! ### kept_layers -/
def tupD (a : PyData) : PyData := .tuple (itemsD a)
abbrev nKept : List Str := ["layers", "one"]
theorem scKeptL : FnScope nKept ["layers"] (defScope sKeptL) := ⟨rfl, rfl, rfl, by decide +kernel, rfl, by decide +kernel, by decide +kernel⟩
abbrev FKeptL (P : Program) (w : World) (K : PySem.W.Frag) (mg : Str → Option Value) (base : Heap) : Prop := Fn P w K mg base CX0 "kept_layers" 1 1 (spP (fArg (fun a => .list ((itemsD a).map tupD)) fun a => isSeq a = true ∧ (∀ d ∈ itemsD a, isSeq d = true) ∧ (itemsD a).length ≤ 1000))
theorem PR_tup1 {σ : L2.St} {G : Hp} {te : TE} {a : PyData} (h : PR te σ G a) (hs : isSeq a = true) : PR (tCB (rTupleQ K) (tCons te tNil)) σ G (tupD a) := by
  cases a with
  | list ds => exact PR_CB RR_tupleL (PRA_one h)
  | tuple ds => exact PR_CB RR_tupleT (PRA_one h)
  | _ => cases hs
theorem fn_keptL (D : Df K mg "kept_layers" sKeptL) (m1 : mg "tuple" = none) : FKeptL P w K mg base := by
  refine D.pure scKeptL (by rintro ds d ⟨a, rfl, _⟩; rfl) rfl (fun _ _ _ _ _ _ us hl => match us, hl with | [_], _ => rfl) fun f cdv A outer s H E G vs ds d Q hr hG hv hD k => ?_
  obtain ⟨a, rfl, rfl, hs, hi, hz⟩ := hD
  obtain ⟨v, rfl, da⟩ := hv.one
  refine ⟨_, pss_one (ps_ret (xe_lc1 (tt := tYes) nKept (defScope sKeptL) 1 (pi_seq (pv 0)) (by decide +kernel) scKeptL.nd (.inr rfl) (fun _ _ _ _ _ => pts_nil) (fun _ _ _ _ _ => xe_tuple (K := K) m1 (pv 1)))), ?_⟩
  exact (PR_map1 (bs := itemsD a) (enc := id) (f := tupD) (by rw [List.map_id]; exact WR_seq (PV da) hs) (fun _ => rfl) (fun G1 b v h1 hb dv => PR_tup1 (PV dv) (hi b hb)) (by rw [sizeLine_eq]; omega)) H Q hG k
end
end K50
set_option Elab.async false
set_option linter.all false
set_option maxRecDepth 100000
set_option maxHeartbeats 4000000
/-! PdEnum: enumerate of a tuple, of a list or a tuple -/
namespace PD
open PySem PySem.Spec PyProof.Rows L2 StX RZ
open Sem (wp)
/-- the tuple's two new cells -/
theorem enumT_new (a : Addr) (items : Array Value) : Meets (Builtin.«enumerate.__new__» ⟨[.type "enumerate", .ref a], []⟩) (fun _ R s => s.heap.IsTuple a items ∧
    R (.ok (.ret (.ref (s.heap.push { cls := .type "tuple_iterator", data := .fields #[.ref a, .int 0 0] }).objs.size)))
      { s with heap := (s.heap.push { cls := .type "tuple_iterator", data := .fields #[.ref a, .int 0 0] }).push { cls := .type "enumerate", data := .fields #[.none, .bool false, .ref s.heap.objs.size, rawInt 0, .none, .none] } }) :=
  .of_wp fun prog w A R s ⟨hL, h⟩ => by
    have subE := sub_enumerate
    obtain ⟨hp, g, d, tk, os⟩ := s
    have hL2 : Heap.IsTuple (Shared.heap ⟨hp, g, d, tk, os⟩) a items := hL
    have go : ∀ {A' : Around} {E : Value → Shared → Prop} {Q : Value → Shared → Prop}, Q (.ref hp.objs.size) ⟨hp.push { cls := .type "tuple_iterator", data := .fields #[.ref a, .int 0 0] }, g, d, tk, os⟩ → wpAny (model prog w) A' (pyIter (.ref a)) Q E ⟨hp, g, d, tk, os⟩ :=
      fun q => wpAny_pyIter_tuple hL2 q
    obtain ⟨ob, hob, hcl, k, hdt⟩ := hL
    wp_walk using go
    refine wpAny_stack_any (fun _ => wpAny_pure ?_)
    split
    · rename_i c _ _ _ _ _
      by_cases hc : (c == Value.type "enumerate") = true
      · rw [hc]
        wp_walk using go
        exact ⟨_, rfl, h⟩
      · rw [Bool.not_eq_true] at hc
        rw [hc]
        wp_walk using go
        exact ⟨_, rfl, h⟩
    · wp_walk using go
      exact ⟨_, rfl, h⟩
section
variable {prog : Program} {w : World} {A : Around} {E : Value → Shared → Prop} {s : Shared}
theorem call_enumT {a : Addr} {items : Array Value} {Q : Value → Shared → Prop} (hL : s.heap.IsTuple a items)
    (h : ∀ h', IsEnum h' (s.heap.objs.size + 1) s.heap.objs.size 0 .none → h'.IsTupleIter s.heap.objs.size a 0 → (∀ b o, s.heap.get? b = some o → h'.get? b = some o) → Q (.ref (s.heap.objs.size + 1)) { s with heap := h' }) :
    wpAny (model prog w) A (call (.type "enumerate") [.ref a]) Q E s := by
  refine callType_new F.called_enumerate (by decide) (F.typeCall_enumerate_1 _) (F.newCall_enumerate_1 _) (fun obj => F.args_object_init_2 obj _) F.entry_enumerate_new (enumT_new a items) ⟨hL, ?_⟩
  have sz : (s.heap.push { cls := .type "tuple_iterator", data := .fields #[.ref a, .int 0 0] }).objs.size = s.heap.objs.size + 1 := Heap.size_push ..
  show _ ∧ _
  rw [sz]
  have en := Heap.get?_push_size (s.heap.push { cls := .type "tuple_iterator", data := .fields #[.ref a, .int 0 0] }) (o := { cls := .type "enumerate", data := .fields #[.none, .bool false, .ref s.heap.objs.size, rawInt 0, .none, .none] }) rfl
  rw [sz] at en
  exact ⟨⟨_, en, rfl⟩, h _ en ⟨_, Heap.get?_push_of_some _ (Heap.get?_push_size _ rfl), rfl, rfl⟩ fun b o x => Heap.get?_push_of_some _ (Heap.get?_push_of_some _ x)⟩
end
/-- the tuple at a, each item in a new pair -/
def IteT (K : PySem.W.Frag) (a : Addr) : It :=
  ⟨fun i H => ∃ (xs : List V) (x : V), SqT K H a xs ∧ xs[i]? = some x, fun i H v H' => ∃ T x, v = .ref T ∧ H T = none ∧ H' = upd H T (.tup [.int (i : Nat), x]) ∧ ∀ xs, SqT K H a xs → xs[i]? = some x, fun i H => ∃ xs : List V, SqT K H a xs ∧ xs.length ≤ i⟩
theorem iter_ne {h : Heap} {it a : Addr} {i : Nat} {items : Array Value} (h1 : h.IsTupleIter it a i) (h2 : h.IsTuple a items) : a ≠ it := fun z => by
  subst z
  obtain ⟨o, e, c, _⟩ := h1
  obtain ⟨o', e', c', _⟩ := h2
  rw [e] at e'
  cases e'
  rw [c] at c'
  exact absurd c' (by decide)
theorem turn_enumT {P : Program} {w : World} {K : PySem.W.Frag} {elts : List Expr} {kk : Nat} {tpos : Pos} (a e it : Addr) :
    Turn P w K (.Tuple elts kk tpos) (IteT K a) [e, it] e (fun i h => (∃ old, IsEnum h e it ((i : Nat) : Int) old) ∧ h.IsTupleIter it a i ∧ e ≠ it) where
  mem := List.mem_cons_self
  obj := fun i h ⟨⟨old, he⟩, ⟨o, ho, _, hd⟩, _⟩ b hb => by
    rcases List.mem_cons.mp hb with z | hb
    · refine ⟨_, by rw [z]; exact he, fun v q => ?_⟩
      have q2 : Data.fields _ = Data.cell v := q
      cases q2
    · rw [List.mem_singleton.mp hb]
      exact ⟨o, ho, fun v q => by rw [hd] at q; cases q⟩
  keep := fun i h h' ⟨⟨old, he⟩, hi, hne⟩ k => ⟨⟨old, k e (by simp) _ he⟩, let ⟨o, q1, q2, q3⟩ := hi; ⟨o, k it (by simp) o q1, q2, q3⟩, hne⟩
  item := by
    rintro X rfl rfl rfl hc i pins s σ H E I hf ⟨⟨old, he⟩, hit, hne⟩ ⟨xs, x, hq, hx⟩
    obtain ⟨its, rv, p, hz⟩ := I.tuple hq
    have hat := iter_ne hit p
    have hea : e ≠ a := fun z => by
      subst z
      obtain ⟨o', e', c', _⟩ := p
      rw [he] at e'
      cases e'
      have c2 : Value.type "enumerate" = Value.type "tuple" := c'
      injection c2 with c3
      exact absurd c3 (by decide)
    have hil : it < s.heap.objs.size := let ⟨_, q, _⟩ := hit; Heap.lt_size q
    have hel : e < s.heap.objs.size := Heap.lt_size he
    have hxl : i < its.toArray.size := by
      have := (List.getElem?_eq_some_iff.mp hx).1
      rw [rv.length] at this
      simpa using this
    refine wpAny_pyNext_enum_itemD (Draws.tuple (show X.A.in1.handled = none from I.ok.hd hc) it a hat its.toArray) he ⟨hit, p⟩ hxl hne (by simp [hne, hea]) fun u h' tk hu ho hst hT hsz hk => ?_
    obtain ⟨hit', p'⟩ := hst
    refine ⟨_, rfl, wpAny_letOwnedTupleGo_enum (s := { s with heap := h', toks := tk + 1 }) ho fun h2 he2 sb => ?_⟩
    obtain ⟨y, hy, ry⟩ := rv.get hx
    have eu : y = u := by
      have hu : its.toArray[i]? = some u := hu
      rw [List.getElem?_toArray, hy] at hu
      exact Option.some.inj hu
    subst eu
    have hT2 : h2.get? s.heap.objs.size = some { cls := .type "tuple", data := .seq #[.int i tk, y] } := (sb.2 _ (Nat.ne_of_gt hel)).trans hT
    have new : ObjOk X.prog X.w (upd H s.heap.objs.size (.tup [.int (i : Nat), x])) h2 s.heap.objs.size (.tup [.int (i : Nat), x]) := ⟨by show 2 ≤ sizeLine; decide, [.int i tk, y], .cons ⟨_, rfl⟩ (.cons ry .nil), ⟨_, hT2, rfl, _, rfl⟩⟩
    have I1 := I.turnedNew (t' := tk + 1) (ch := [e, it]) (fun b ob hb q => by
      have b1 : b ≠ e := fun z => hb (by simp [z])
      exact (sb.2 b b1).trans (hk b ob b1 (fun z => hb (by simp [z])) q)) hf (Nat.le_refl _) new
    refine ⟨.ref s.heap.objs.size, _, I1, rfl, ⟨_, x, rfl, I.hok.fresh (Nat.le_refl _), rfl, fun ys hy => by rw [I.tuple_inj hy hq]; exact hx⟩, ⟨⟨y, ?_⟩, ?_, hne⟩, fun b hb => ?_⟩
    · have e1 : ((i + 1 : Nat) : Int) = (i : Int) + 1 := by omega
      rw [e1]; exact he2
    · obtain ⟨o, q1, q2, q3⟩ := hit'
      exact ⟨o, (sb.2 it (Ne.symm hne)).trans q1, q2, q3⟩
    · have hb' : b < s.heap.objs.size := by
        rcases List.mem_cons.mp hb with z | hb
        · rw [z]; exact hel
        · rw [List.mem_singleton.mp hb]; exact hil
      rw [upd_ne (Nat.ne_of_lt hb')]
      exact (hf b hb).1
  done := by
    rintro X rfl rfl rfl hc i pins s σ H E I hf ⟨⟨old, he⟩, hit, hne⟩ ⟨xs, hq, hx⟩
    obtain ⟨its, rv, p, hz⟩ := I.tuple hq
    obtain ⟨f0, f1, f2, f3, f4, f5⟩ := hf it (by simp)
    have hl := rv.length
    have hat := iter_ne hit p
    refine wpAny_pyNext_enum_endD (n := i) (fp := [it, a]) (P := fun _ _ => True) (St := fun j h => j = i ∧ h.IsTupleIter it a i ∧ h.IsTuple a its.toArray) ?_ he ⟨rfl, hit, p⟩ fun h' eb => ⟨rfl, I.turned (t' := s.toks) (fun b o hb q => eb b o hb q) f0 f1 f3 f4 f5⟩
    refine ⟨fun j h st => let ⟨o, ho, _⟩ := st.2.1; ⟨o, ho⟩, fun j h h' st hk => ⟨st.1, let ⟨o, q1, q2, q3⟩ := st.2.1; ⟨o, hk it (by simp) o q1, q2, q3⟩, let ⟨o, q1, q2⟩ := st.2.2; ⟨o, hk a (by simp) o q1, q2⟩⟩, fun j s Q E hj st hQ => absurd st.1 (Nat.ne_of_lt hj), fun s Q E st hE => ?_⟩
    exact wpAny_nextOf_tuple_end (show X.A.in1.handled = none from I.ok.hd hc) st.2.1 st.2.2 (by simp; omega) hE
  self := fun A i s Q E st h => let ⟨⟨_, he⟩, _⟩ := st; wpAny_pyIter_enum he h
/-- enumerate(x), x a list or a tuple -/
def iEnumS (K : PySem.W.Frag) (ta : TA) : TI := fun σ H R => ta σ H fun vs H1 => ∃ a xs, vs = [.ref a] ∧ ((SqL K H1 a xs ∧ R (Ite K a) H1) ∨ (SqT K H1 a xs ∧ R (IteT K a) H1))
theorem pi_enumS {X : Cx} {e : Expr} {ta : TA} {p pos tpos : Pos} {elts : List Expr} {kk : Nat} {K : PySem.W.Frag} (hm : X.mg "enumerate" = none) (ha : PA X [e] ta) (hg : Gl X "enumerate" := by rfl) (hK : X.K = K := by rfl) (hs : starEach [e] X.env = [(false, eval e X.env)] := by rfl) :
    PI X (.Tuple elts kk tpos) (.Call (.Name "enumerate" p) [e] [] pos) (iEnumS K ta) := by
  subst hK
  refine ⟨fun pins s σ H R I h => ?_⟩
  refine Call_ (ld_blt I hg hm boot_enumerate (PyProof.Rows.callWith_type1 (thn (ha.run pos pins s σ H _ I h) fun us s1 ⟨vs, H1, I1, r1, a, xs, ex, q⟩ => ?_) hs rfl))
  subst ex
  obtain ⟨u, rfl, rfl⟩ : ∃ u, us = [u] ∧ u = Value.ref a := by
    cases r1 with
    | cons r rr => cases rr; exact ⟨_, rfl, r⟩
  have lo : ∀ b, b ∈ [s1.heap.objs.size + 1, s1.heap.objs.size] → FpOk X pins H1 b := fun b hb => by
    have hle : s1.heap.objs.size ≤ b := by
      rcases List.mem_cons.mp hb with z | hb
      · rw [z]; exact Nat.le_add_right _ _
      · rw [List.mem_singleton.mp hb]; exact Nat.le_refl _
    exact I1.fpOk hle (I1.hok.fresh hle)
  rcases q with ⟨hq, q⟩ | ⟨hq, q⟩
  · obtain ⟨its, rv, p', hz⟩ := I1.list hq
    refine call_enumerate_list p'.isList fun h' he hit hsz hk => wpAny_pyIter_enum he ?_
    exact ⟨s1.heap.objs.size + 1, [s1.heap.objs.size + 1, s1.heap.objs.size], _, _, H1, rfl, I1.kept (t' := s1.toks) hk, turn_enum a (s1.heap.objs.size + 1) s1.heap.objs.size, ⟨⟨.none, he⟩, hit, Nat.succ_ne_self _⟩, lo, q⟩
  · obtain ⟨its, rv, p', hz⟩ := I1.tuple hq
    refine call_enumT p' fun h' he hit hk => wpAny_pyIter_enum he ?_
    exact ⟨s1.heap.objs.size + 1, [s1.heap.objs.size + 1, s1.heap.objs.size], _, _, H1, rfl, I1.kept (t' := s1.toks) hk, turn_enumT a (s1.heap.objs.size + 1) s1.heap.objs.size, ⟨⟨.none, he⟩, hit, Nat.succ_ne_self _⟩, lo, q⟩
section
variable {K : PySem.W.Frag} {σ : L2.St} {G : Hp} {ds : List PyData} {d : PyData} {t : TA}
theorem walk_enumT {a : Addr} {xs : List V} : Walk (IteT K a) xs.length (fun H => SqT K H a xs) (fun i H v H' => ∃ T x, v = .ref T ∧ H T = none ∧ H' = upd H T (.tup [.int (i : Nat), x]) ∧ xs[i]? = some x) :=
  ⟨fun i _ hi q => ⟨xs, xs[i], q, by simp [hi]⟩, fun _ q => ⟨xs, q, Nat.le_refl _⟩, fun i H v H' _ q y => let ⟨T, x, h1, h2, h3, h4⟩ := y; ⟨T, x, h1, h2, h3, h4 xs q⟩⟩
theorem DW_enumT {a : Addr} {xs : List V} (ha : G a = some (.tup xs)) (hd : DqAll G xs ds) : DW (IteT K a) G (enumD 0 ds) := by
  refine ⟨?_⟩
  rw [enumD_len, ← hd.len]
  refine walk_enumT.mono (fun H hs => SqT.of (hs _ _ ha)) fun i H x H' hi hs y => ?_
  obtain ⟨T, b, rfl, hT, e, eb⟩ := y
  obtain ⟨d, q1, q2⟩ := hd.get eb
  exact ⟨_, by simpa using enumD_get 0 ds i d q1, by rw [e]; exact same_new hT, fun G2 g2 h2 => pairNew hT e h2 (.int _) (q2.up g2)⟩
theorem DW_enumL {a : Addr} {xs : List V} (ha : G a = some (.lst xs)) (hd : DqAll G xs ds) : DW (Ite K a) G (enumD 0 ds) := by
  refine ⟨?_⟩
  rw [enumD_len, ← hd.len]
  refine walk_enum.mono (fun H hs => SqL.of (hs _ _ ha)) fun i H x H' hi hs y => ?_
  obtain ⟨T, c, b, rfl, hT, e, ec, eb⟩ := y
  cases ec
  obtain ⟨d, q1, q2⟩ := hd.get eb
  exact ⟨_, by simpa using enumD_get 0 ds i d q1, by rw [e]; exact same_new hT, fun G2 g2 h2 => pairNew hT e h2 (.int _) (q2.up g2)⟩
theorem WR_enumS (h : PRA t σ G [d]) (hd : seqOf d = some ds) : WR (iEnumS K t) σ G (enumD 0 ds) := fun H R hs k => h H _ hs fun vs G1 H1 e1 dv => by
  obtain ⟨x, rfl, hx⟩ := dv.one
  cases hx with
  | lst ha hl => cases hd; exact ⟨_, _, rfl, .inl ⟨SqL.of (e1.gh _ _ ha), k _ G1 H1 e1 (DW_enumL ha hl)⟩⟩
  | tup ha hl => cases hd; exact ⟨_, _, rfl, .inr ⟨SqT.of (e1.gh _ _ ha), k _ G1 H1 e1 (DW_enumT ha hl)⟩⟩
  | _ => cases hd
end
end PD
set_option Elab.async false
set_option linter.all false
set_option maxRecDepth 100000
set_option maxHeartbeats 4000000
/-! K50b: layers and steps as they stand, loosely or not; is_step, first_wrong_step -/
namespace K50
open PySem PySem.Spec PyProof.Rows L2 PD StX RZ
abbrev sIsStep : Stmt := top 22
abbrev sWrong : Stmt := top 23
/-! ### layers, steps -/
inductive Kd where
  | ci | se | la | wo
deriving DecidableEq
def Kd.str : Kd → Str
  | .ci => "cipher"
  | .se => "seal"
  | .la => "label"
  | .wo => "word"
theorem kd_inj {a b : Kd} : a.str = b.str ↔ a = b := by revert a b; intro a b; cases a <;> cases b <;> decide +kernel
abbrev Lay := Kd × Nat
structure Stp where
  part : Nat
  tk : List Lay
  pt : List Lay
deriving DecidableEq
def encL (l : Lay) : PyData := .tuple [.str l.1.str, .int l.2]
def encS (s : Stp) : PyData := .tuple [.int s.part, .list (s.tk.map encL), .list (s.pt.map encL)]
def encSS (ss : List Stp) : PyData := .list (ss.map encS)
inductive All2 {α : Type} (R : PyData → α → Prop) : List PyData → List α → Prop
  | nil : All2 R [] []
  | cons {d : PyData} {ds : List PyData} {a : α} {as : List α} : R d a → All2 R ds as → All2 R (d :: ds) (a :: as)
theorem All2.len {α : Type} {R : PyData → α → Prop} : ∀ {ds : List PyData} {as : List α}, All2 R ds as → ds.length = as.length
  | _, _, .nil => rfl
  | _, _, .cons _ t => by simp [All2.len t]
theorem All2.map {α : Type} {R : PyData → α → Prop} {f : α → PyData} (h : ∀ a, R (f a) a) : ∀ as : List α, All2 R (as.map f) as
  | [] => .nil
  | a :: as => .cons (h a) (All2.map h as)
theorem All2.at {α : Type} {R : PyData → α → Prop} : ∀ {ds : List PyData} {as : List α} {j : Nat} {d : PyData}, All2 R ds as → ds[j]? = some d → ∃ a, as[j]? = some a ∧ R d a
  | _, _, _, _, .nil, h => by simp at h
  | _, _, 0, _, .cons h _, e => by simp at e; subst e; exact ⟨_, rfl, h⟩
  | _, _, j + 1, _, .cons _ t, e => by
    obtain ⟨a, h1, h2⟩ := All2.at t (j := j) (by simpa using e)
    exact ⟨a, by simpa using h1, h2⟩
theorem All2.mem {α : Type} {R : PyData → α → Prop} {ds : List PyData} {as : List α} {d : PyData} (h : All2 R ds as) (hd : d ∈ ds) : ∃ a ∈ as, R d a := by
  obtain ⟨j, hj, e⟩ := List.mem_iff_getElem.mp hd
  obtain ⟨a, h1, h2⟩ := h.at (j := j) (by rw [List.getElem?_eq_getElem hj, e])
  exact ⟨a, List.mem_of_getElem? h1, h2⟩
theorem All2.imp {α : Type} {R R' : PyData → α → Prop} (h : ∀ d a, R d a → R' d a) : ∀ {ds : List PyData} {as : List α}, All2 R ds as → All2 R' ds as
  | _, _, .nil => .nil
  | _, _, .cons x t => .cons (h _ _ x) (All2.imp h t)
theorem All2.zip {α : Type} {R : PyData → α → Prop} : ∀ {ds : List PyData} {as : List α}, All2 R ds as → ∃ zs : List (PyData × α), zs.map (·.1) = ds ∧ zs.map (·.2) = as ∧ ∀ z ∈ zs, R z.1 z.2
  | _, _, .nil => ⟨[], rfl, rfl, fun _ h => by cases h⟩
  | d :: ds, a :: as, .cons x t => by
    obtain ⟨zs, h1, h2, h3⟩ := All2.zip t
    refine ⟨(d, a) :: zs, by simp [h1], by simp [h2], fun z hz => ?_⟩
    rcases List.mem_cons.mp hz with rfl | hz
    · exact x
    · exact h3 z hz
/-- a list or a tuple of these -/
def Row (a : PyData) (ds : List PyData) : Prop := a = .list ds ∨ a = .tuple ds
theorem Row.seq {a : PyData} {ds : List PyData} (h : Row a ds) : isSeq a = true := by rcases h with rfl | rfl <;> rfl
theorem Row.items {a : PyData} {ds : List PyData} (h : Row a ds) : itemsD a = ds := by rcases h with rfl | rfl <;> rfl
theorem Row.seqOf {a : PyData} {ds : List PyData} (h : Row a ds) : seqOf a = some ds := by rcases h with rfl | rfl <;> rfl
theorem Row.plain {a : PyData} {ds : List PyData} (h : Row a ds) : Pln a := by rcases h with rfl | rfl <;> rfl
theorem Row.row {a : PyData} {ds : List PyData} {n : Nat} (h : Row a ds) (hn : ds.length = n) : rowD n a = true := by rcases h with rfl | rfl <;> simp [rowD, isSeq, itemsD, hn]
theorem Row.at {a : PyData} {ds : List PyData} (h : Row a ds) (j : Nat) : at_ a j = (ds[j]?).getD .none := by rw [at_, h.items]
theorem Row.sh {a : PyData} {ds : List PyData} {k : Nat} (h : Row a ds) (hs : ShL k ds) : Sh (k + 1) a := by
  rcases h with rfl | rfl
  · exact hs.list
  · exact hs.tuple
def LzL (a : PyData) (l : Lay) : Prop := Row a [.str l.1.str, .int l.2]
def LzLs (a : PyData) (ls : List Lay) : Prop := ∃ ds, Row a ds ∧ All2 LzL ds ls
def LzS (a : PyData) (s : Stp) : Prop := ∃ x y, Row a [.int s.part, x, y] ∧ LzLs x s.tk ∧ LzLs y s.pt
def LzSS (a : PyData) (ss : List Stp) : Prop := ∃ ds, Row a ds ∧ All2 LzS ds ss
theorem lzL_enc (l : Lay) : LzL (encL l) l := .inr rfl
theorem lzLs_enc (ls : List Lay) : LzLs (.list (ls.map encL)) ls := ⟨_, .inl rfl, .map lzL_enc ls⟩
theorem lzS_enc (s : Stp) : LzS (encS s) s := ⟨_, _, .inr rfl, lzLs_enc _, lzLs_enc _⟩
theorem lzSS_enc (ss : List Stp) : LzSS (encSS ss) ss := ⟨_, .inl rfl, .map lzS_enc ss⟩
theorem sh_int (i : Int) : Sh 1 (.int i) := ⟨rfl, by simp [PyData.depth]⟩
theorem sh_kd (k : Kd) : Sh 1 (.str k.str) := ⟨by cases k <;> decide +kernel, by simp [PyData.depth]⟩
theorem LzL.sh {a : PyData} {l : Lay} (h : LzL a l) : Sh 2 a := Row.sh h fun d hd => by
  simp only [List.mem_cons, List.not_mem_nil, or_false] at hd
  rcases hd with rfl | rfl
  · exact sh_kd _
  · exact sh_int _
theorem LzLs.sh {a : PyData} {ls : List Lay} (h : LzLs a ls) : Sh 3 a := let ⟨ds, h1, h2⟩ := h; h1.sh fun d hd => let ⟨l, _, q⟩ := h2.mem hd; q.sh
theorem LzS.sh {a : PyData} {s : Stp} (h : LzS a s) : Sh 4 a := by
  obtain ⟨x, y, h1, h2, h3⟩ := h
  refine h1.sh fun d hd => ?_
  simp only [List.mem_cons, List.not_mem_nil, or_false] at hd
  rcases hd with rfl | rfl | rfl
  · exact (sh_int _).mono (by decide)
  · exact h2.sh
  · exact h3.sh
theorem LzSS.sh {a : PyData} {ss : List Stp} (h : LzSS a ss) : Sh 5 a := let ⟨ds, h1, h2⟩ := h; h1.sh fun d hd => let ⟨l, _, q⟩ := h2.mem hd; q.sh
/-- right as a layer of parts -/
def okLay (l : Lay) : Prop := (l.1 = .wo ∧ l.2 ≤ 9) ∨ (l.1 ≠ .wo ∧ l.2 ≤ 1)
theorem LzL.row {a : PyData} {l : Lay} (h : LzL a l) : rowD 2 a = true := Row.row h rfl
theorem LzL.at0 {a : PyData} {l : Lay} (h : LzL a l) : at_ a 0 = .str l.1.str := (Row.at h 0).trans rfl
theorem LzL.at1 {a : PyData} {l : Lay} (h : LzL a l) : at_ a 1 = .int l.2 := (Row.at h 1).trans rfl
theorem plD_of {a : PyData} {l : Lay} (h : LzL a l) (ok : okLay l) : plD a = true := by
  have e : plD a = ((isStr "word" (.str l.1.str) && btw 0 9 (.int l.2)) || (kindD (.str l.1.str) && btw 0 1 (.int l.2))) := by
    unfold plD wordD
    rw [h.row, h.at0, h.at1, Bool.true_and, Bool.true_and]
  rw [e]
  rcases ok with ⟨h1, h2⟩ | ⟨h1, h2⟩
  · have : btw 0 9 (.int l.2) = true := by simp [btw]; omega
    rw [this, h1]; rfl
  · have h3 : btw 0 1 (.int l.2) = true := by simp [btw]; omega
    have h4 : kindD (.str l.1.str) = true := by
      revert h1
      cases l.1 <;> first | exact fun h => (h rfl).elim | (intro _; decide +kernel)
    rw [h3, h4, Bool.or_eq_true]; exact .inr rfl
def okLays (ls : List Lay) : Prop := ls.length ≤ 1000 ∧ ∀ l ∈ ls, okLay l
theorem LzLs.le {a : PyData} {ls : List Lay} (h : LzLs a ls) (ok : okLays ls) : (itemsD a).length ≤ 1000 := by
  obtain ⟨ds, q1, q2⟩ := h
  rw [q1.items, q2.len]; exact ok.1
theorem plsD_of {a : PyData} {ls : List Lay} (h : LzLs a ls) (ok : okLays ls) : plsD a = true := by
  obtain ⟨ds, h1, h2⟩ := h
  rw [plsD, h1.seq, h1.items, Bool.true_and]
  exact List.all_eq_true.mpr fun d hd => let ⟨l, m, q⟩ := h2.mem hd; plD_of q (ok.2 l m)
theorem tupD_of {a : PyData} {l : Lay} (h : LzL a l) : tupD a = encL l := by rw [tupD, Row.items h]; rfl
theorem encL_sh (l : Lay) : Sh 2 (encL l) := (lzL_enc l).sh
theorem eqv_lay (l m : Lay) : PyData.eqv (encL l) (encL m) = decide (l = m) := by
  have e : PyData.eqv (encL l) (encL m) = (l.1.str == m.1.str && ((l.2 : Int) == (m.2 : Int) && true)) := by simp [encL, PyData.eqv, PyData.eqvAll]
  rw [e, Bool.eq_iff_iff]
  simp only [Bool.and_true, Bool.and_eq_true, beq_iff_eq, decide_eq_true_eq, Prod.ext_iff]
  exact and_congr kd_inj Int.ofNat_inj
/-! ### is_step -/
def hasL (ls : List Lay) (l : Lay) : Bool := ls.any fun m => decide (m = l)
def okS (s : Stp) : Bool := !hasL s.tk (.ci, 1 - s.part) && !hasL s.pt (.se, 1 - s.part)
/-- part and layers are right -/
def FormS (s : Stp) : Prop := s.part ≤ 1 ∧ okLays s.tk ∧ okLays s.pt
abbrev nStep : List Str := ["thing", "part", "takes", "puts", "one"]
theorem scIsStep : FnScope nStep ["thing"] (defScope sIsStep) := ⟨rfl, rfl, rfl, by decide +kernel, rfl, by decide +kernel, by decide +kernel⟩
def DStep (ds : List PyData) (d : PyData) : Prop := ∃ a s, ds = [a] ∧ d = .bool (okS s) ∧ LzS a s ∧ FormS s
section
variable {P : Program} {w : World} {K : PySem.W.Frag} {mg : Str → Option Value} {base : Heap}
abbrev FIsStep (P : Program) (w : World) (K : PySem.W.Frag) (mg : Str → Option Value) (base : Heap) : Prop := Fn P w K mg base CX0 "is_step" 6 1 (spP DStep)
/-- one pattern of three names -/
theorem gp3 {σ : L2.St} {a x y z : PyData} {i j l : Nat} (h : Row a [x, y, z]) : Gp (gSeq K 3 (gCons (gName i) (gCons (gName j) (gCons (gName l) gNil)))) σ a (fun G σ' => ∃ u v t, Dq G u x ∧ Dq G v y ∧ Dq G t z ∧ σ' = ((σ.set i (some u)).set j (some v)).set l (some t)) := fun v G1 H k dv hs hk =>
  Gp_seq (Gps_cons Gp_nm fun σ1 => Gps_cons Gp_nm fun σ2 => Gps_cons Gp_nm fun σ3 => Gps_nil) rfl h.seqOf v G1 H k dv hs fun σ' ⟨σ1, ⟨u, du, e1⟩, σ2, ⟨v, dv, e2⟩, σ3, ⟨t, dt, e3⟩, e4⟩ => hk σ' ⟨u, v, t, du, dv, dt, by rw [e4, e3, e2, e1]⟩
theorem PR_hasL {σ : L2.St} {G : Hp} {te : TE} {a : PyData} {ls : List Lay} {l : Lay} {i : Nat} {tb : TE} {vs : List Nat} (h : PR te σ G a) (hl : LzLs a ls) (hz : ls.length ≤ 1000) (hset : ∀ v, wipe ((wipe σ vs).set i (some v)) vs = wipe σ vs)
    (hi : ∀ v, ((wipe σ vs).set i (some v))[i]? = some (some v)) (hb : ∀ G1 v, Same G G1 → PR tb ((wipe σ vs).set i (some v)) G1 (encL l)) :
    PR (tCB (rAny K) (tCons (tLc (iSeq K te) (gName i) tYes (tOp (rEqD K) (tCB (rTupleQ K) (tCons (tVar i) tNil)) tb) vs) tNil)) σ G (.bool (hasL ls l)) := by
  obtain ⟨ds, h1, h2⟩ := hl
  obtain ⟨zs, e1, e2, h3⟩ := h2.zip
  have e : hasL ls l = zs.any fun z => decide (z.2 = l) := by rw [hasL, ← e2, List.any_map]; rfl
  rw [e]
  refine PR_any (PR_map1 (bs := zs) (enc := fun z => z.1) (f := fun z => .bool (decide (z.2 = l))) ?_ hset (fun G1 b v g1 hb' dv => ?_) (by have := congrArg List.length e2; rw [List.length_map] at this; rw [sizeLine_eq]; omega))
  · rw [e1, ← h1.items]
    exact WR_seq h h1.seq
  · have q := h3 b hb'
    rw [← eqv_lay]
    exact PR_op (RR2_eq ((encL_sh _).shaped (by decide)) ((encL_sh _).shaped (by decide))) ((PR_tup1 (PR_var (hi v) dv) (Row.seq q)).eq (tupD_of q)) (hb G1 v g1)
theorem pg3 {X : Cx} {x y z : Str} {i j l k : Nat} {p1 p2 p3 pos : Pos} (hc : X.calm = true) (h1 : PG X (.Name x p1) (gName i)) (h2 : PG X (.Name y p2) (gName j)) (h3 : PG X (.Name z p3) (gName l)) (hK : X.K = K := by rfl) :
    PG X (.Tuple [.Name x p1, .Name y p2, .Name z p3] k pos) (gSeq K 3 (gCons (gName i) (gCons (gName j) (gCons (gName l) gNil)))) :=
  hK ▸ pg_seq (pg_tup hc (pgs_cons h1 (pgs_cons h2 (pgs_cons h3 pgs_nil)))) (pg_lst hc (pgs_cons h1 (pgs_cons h2 (pgs_cons h3 pgs_nil))))
theorem fn_isStep (D : Df K mg "is_step" sIsStep) (FR : FIsRow P w K mg base) (FP : FIsPart P w K mg base) (FA : FArePL P w K mg base) (m1 : mg "any" = none) (m2 : mg "tuple" = none) : FIsStep P w K mg base := by
  refine D.pure scIsStep (by rintro ds d ⟨a, s, rfl, _⟩; rfl) rfl (fun _ _ _ _ _ _ us hl => match us, hl with | [_], _ => rfl) fun f cdv A outer s0 H E G vs ds d Q hr hG hv hD k => ?_
  obtain ⟨a, s, rfl, rfl, ⟨x, y, hrow, hx, hy⟩, hp1, hok1, hok2⟩ := hD
  obtain ⟨v, rfl, da⟩ := hv.one
  have hu := hr.u65
  refine ⟨_, pss_cons (ps_if (PW.pt (pw_or (pt_not (pt_val (pe_fn FR (hr.mono (by decide)) (by rfl) pass0 (pa_cons (pv 0) (pa_cons pe_int pa_nil))))) (pw_or1 (pt_not (pt_val (pe_fn FP (hr.mono (by decide)) (by rfl) pass0 (pa_cons (xe_item (K := K) (pv 0) pe_int) pa_nil))))))) (pss_one (ps_ret pe_bl)) pss_nil)
    (pss_cons (ps_asg (pv 0) (pg3 (K := K) rfl (pg_name (i := 1) scIsStep.nd rfl (.inr rfl)) (pg_name (i := 2) scIsStep.nd rfl (.inl rfl)) (pg_name (i := 3) scIsStep.nd rfl (.inl rfl))))
    (pss_cons (ps_if (PW.pt (pw_or (pt_not (pt_val (pe_fn FA hr (by rfl) pass0 (pa_cons (pv 2) pa_nil)))) (pw_or1 (pt_not (pt_val (pe_fn FA hr (by rfl) pass0 (pa_cons (pv 3) pa_nil))))))) (pss_one (ps_ret pe_bl)) pss_nil)
    (pss_cons (ps_if (pt_val (xe_any (K := K) m1 (xe_lc1 (tt := tYes) nStep (defScope sIsStep) 4 (xi_seq (K := K) (pv 2)) (by decide +kernel) scIsStep.nd (.inr rfl) (fun _ _ _ _ _ => pts_nil)
        (fun _ _ _ _ _ => xe_eq (K := K) hu (xe_tuple (K := K) m2 (pv 4)) (pe_tup (pa_cons pe_str (pa_cons (pe_op op_sub pe_int (pv 1)) pa_nil))))))) (pss_one (ps_ret pe_bl)) pss_nil)
    (pss_one (ps_ret (pe_not (xe_any (K := K) m1 (xe_lc1 (tt := tYes) nStep (defScope sIsStep) 4 (xi_seq (K := K) (pv 3)) (by decide +kernel) scIsStep.nd (.inr rfl) (fun _ _ _ _ _ => pts_nil)
        (fun _ _ _ _ _ => xe_eq (K := K) hu (xe_tuple (K := K) m2 (pv 4)) (pe_tup (pa_cons pe_str (pa_cons (pe_op op_sub pe_int (pv 1)) pa_nil)))))))))))), ?_⟩
  have hr3 : rowD 3 a = true := hrow.row rfl
  have h0 := PR_it (K := K) 0 (PV (σ := [some v, none, none, none, none]) (i := 0) da) hr3
  rw [hrow.at 0] at h0
  refine tIf_use (b := false) (TR.eq (TR_or (TR_not (TR_tB (PR_call (PRA_two (PV da) (PR_int (i := 3))) ⟨a, 3, rfl, rfl, hrow.plain⟩))) fun _ => TR_not (TR_tB (PR_call (PRA_one h0) ⟨_, rfl, rfl, rfl⟩))) ?_) hG fun H1 e1 => iteF (nxt ?_)
  · rw [hr3]
    have : btw 0 1 (.int s.part) = true := by simp [btw]; omega
    show (!true || !btw 0 1 (.int s.part)) = false
    rw [this]; rfl
  refine tSetP_use (hG.trans e1) (PV da) (gp3 hrow) fun σ' G2 H2 e2 ⟨up, ux, uy, dp, dx, dy, eσ⟩ => ?_
  subst eσ
  have e12 := (Ext.more hG e1).trans e2
  refine tIf_use (b := false) (TR.eq (TR_or (TR_not (TR_tB (PR_call (PRA_one (PV dx)) ⟨_, rfl, rfl, .inl (hx.sh.mono (by decide)), hx.le hok1⟩))) fun _ => TR_not (TR_tB (PR_call (PRA_one (PV dy)) ⟨_, rfl, rfl, .inl (hy.sh.mono (by decide)), hy.le hok2⟩))) ?_) e2.gh fun H3 e3 => iteF (nxt ?_)
  · rw [plsD_of hx hok1, plsD_of hy hok2]; rfl
  have hsub : ∀ {σ : L2.St} {G1 : Hp}, Same G2 G1 → σ[1]? = some (some up) → ∀ q : Kd, PR (tTup (tCons (tC (.str q.str)) (tCons (tOp (rI0 fun i j => .int (i - j)) (tC (.int 1)) (tVar 1)) tNil))) σ G1 (encL (q, 1 - s.part)) := fun g h1 q =>
    (PR_tup (PRA_two PR_str (PR_op RR2_subI PR_int (PR_var h1 (dp.up g)))) (by show 2 ≤ sizeLine; rw [sizeLine_eq]; omega)).eq (by
      have e : ((1 - s.part : Nat) : Int) = 1 - (s.part : Int) := by omega
      simp only [encL]
      rw [e])
  refine tIf_use (TR_tB (PR_hasL (l := (.ci, 1 - s.part)) (PV dx) hx hok1.1 (fun _ => rfl) (fun _ => rfl) fun G1 v g => hsub g rfl _)) (e2.gh.trans e3) fun H4 e4 => ?_
  have e1234 := (e12.trans (Ext.more e2.gh (e3.trans e4)))
  unfold okS at k
  cases hc : hasL s.tk (.ci, 1 - s.part) with
  | true =>
    rw [hc] at k
    exact iteT (tRet_bl (e2.gh.trans (e3.trans e4)) fun v G' H' x dv => k v G' H' (e1234.trans x) dv)
  | false =>
    rw [hc, Bool.not_false, Bool.true_and] at k
    refine iteF (nxt ?_)
    dsimp only
    exact tRet_use (e2.gh.trans (e3.trans e4)) (PR_notV (PR_hasL (l := (.se, 1 - s.part)) (PV dy) hy hok2.1 (fun _ => rfl) (fun _ => rfl) fun G1 v g => hsub g rfl _)) fun v G' H' x dv => k v G' H' (e1234.trans x) dv
/-! ### first_wrong_step -/
def wrongAt (k : Nat) (s : Stp) : Bool := !okS s || (decide (k = 0) && (decide (s.part ≠ 0) || decide (0 < s.tk.length)))
def wrongFrom : Nat → List Stp → Option Nat
  | _, [] => none
  | k, s :: ss => if wrongAt k s then some k else wrongFrom (k + 1) ss
def optD : Option Nat → PyData
  | none => .none
  | some i => .int i
abbrev nWrong : List Str := ["things", "index", "thing"]
theorem scWrong : FnScope nWrong ["things"] (defScope sWrong) := ⟨rfl, rfl, rfl, by decide +kernel, rfl, by decide +kernel, by decide +kernel⟩
def DWrong (ds : List PyData) (d : PyData) : Prop := ∃ a ss, ds = [a] ∧ d = optD (wrongFrom 0 ss) ∧ LzSS a ss ∧ ss ≠ [] ∧ ss.length ≤ 1000 ∧ ∀ s ∈ ss, FormS s
abbrev FWrong (P : Program) (w : World) (K : PySem.W.Frag) (mg : Str → Option Value) (base : Heap) : Prop := Fn P w K mg base CX0 "first_wrong_step" 7 1 (spP DWrong)
theorem gp2 {σ : L2.St} {x y : PyData} {i j : Nat} : Gp (gTup K 2 (gCons (gName i) (gCons (gName j) gNil))) σ (.tuple [x, y]) (fun G σ' => ∃ u v, Dq G u x ∧ Dq G v y ∧ σ' = (σ.set i (some u)).set j (some v)) := fun v G1 H k dv hs hk =>
  Gp_tup (Gps_cons Gp_nm fun σ1 => Gps_cons Gp_nm fun σ2 => Gps_nil) rfl v G1 H k dv hs fun σ' ⟨σ1, ⟨u, du, e1⟩, σ2, ⟨v, dv, e2⟩, e4⟩ => hk σ' ⟨u, v, du, dv, by rw [e4, e2, e1]⟩
theorem enumD_at (ds : List PyData) {j : Nat} {d : PyData} (h : (enumD 0 ds)[j]? = some d) : ∃ e, ds[j]? = some e ∧ d = .tuple [.int (j : Nat), e] := by
  have hj : j < ds.length := by
    have := (List.getElem?_eq_some_iff.mp h).1
    rwa [enumD_len] at this
  have e := enumD_get 0 ds j ds[j] (List.getElem?_eq_getElem hj)
  rw [h] at e
  refine ⟨_, List.getElem?_eq_getElem hj, ?_⟩
  rw [Option.some.inj e, Nat.zero_add]
theorem fn_wrong (D : Df K mg "first_wrong_step" sWrong) (FL : FIsList P w K mg base) (FS : FIsStep P w K mg base) (m1 : mg "len" = none) (m2 : mg "enumerate" = none) : FWrong P w K mg base := by
  refine D.pure scWrong (by rintro ds d ⟨a, s, rfl, _⟩; rfl) rfl (fun _ _ _ _ _ _ us hl => match us, hl with | [_], _ => rfl) fun f cdv A outer s0 H E G vs ds d Q hr hG hv hD k => ?_
  obtain ⟨a, ss, rfl, rfl, ⟨rs, hrow, hall⟩, hne, hlen, hform⟩ := hD
  obtain ⟨v, rfl, da⟩ := hv.one
  refine ⟨_, pss_cons (ps_if (PW.pt (pw_or (pt_not (pt_val (pe_fn FL (hr.mono (by decide)) (by rfl) pass0 (pa_cons (pv 0) pa_nil)))) (pw_or1 (pt_cmpR op_eq (xe_len (K := K) m1 (pv 0)) pe_int (nomark _))))) (pss_one (ps_ret pe_int)) pss_nil)
    (pss_cons (ps_for PassesOwn.never rfl (pi_enumS (K := K) m2 (pa_cons (pv 0) pa_nil)) (pg_tup rfl (pgs_cons (pg_name (i := 1) scWrong.nd rfl (.inl rfl)) (pgs_cons (pg_name (i := 2) scWrong.nd rfl (.inl rfl)) pgs_nil)))
      (pss_one (ps_if (PW.pt (pw_or (pt_not (pt_val (pe_fn FS hr (by rfl) pass0 (pa_cons (pv 2) pa_nil)))) (pw_or1 (PW.pt (pw_and (pt_cmpR op_eq (pv 1) pe_int (nomark _)) (pw_and1 (PW.pt (pw_or (pt_cmpR op_ne (xe_item (K := K) (pv 2) pe_int) pe_int (nomark _))
        (pw_or1 (pt_cmpR op_gt (xe_len (K := K) m1 (xe_item (K := K) (pv 2) pe_int)) pe_int (nomark _))))))))))) (pss_one (ps_ret (pv 1))) pss_nil)))
    (pss_one (ps_ret pe_non))), ?_⟩
  have hne0 : ss.length ≠ 0 := fun z => hne (List.length_eq_zero_iff.mp z)
  refine tIf_use (b := false) (TR.eq (TR_or (TR_not (TR_tB (PR_call (PRA_one (PV da)) ⟨a, rfl, rfl, hrow.plain⟩))) fun _ => TR_test (PR_op RR2_eqI (PR_len (PV da) hrow.seq) PR_int)) ?_) hG fun H1 e1 => iteF (nxt ?_)
  · rw [hrow.seq, hrow.items, hall.len]
    show (!true || decide ((ss.length : Int) = 0)) = false
    rw [decide_eq_false (by omega)]; rfl
  refine tFor_use (hG.trans e1) (WR_enumS (PRA_one (PV da)) hrow.seqOf) fun J G2 H2 e2 dw => ?_
  have e12 := (Ext.more hG e1).trans e2
  refine for_pt dw (fun j σ H' => ∃ G' x1 x2, Ext G2 H2 G' H' ∧ σ = [some v, x1, x2] ∧ wrongFrom j (ss.drop j) = wrongFrom 0 ss) ⟨G2, none, none, .refl e2.gh, rfl, rfl⟩ ?_ ?_ ?_
  · rintro j σ H' hj ⟨G', x1, x2, x, _⟩
    exact x.gg.trans x.gh
  · rintro j d x σ H3 H3' hd ⟨G3, x1, x2, e3, rfl, hw⟩ s3 y
    obtain ⟨e, he, rfl⟩ := enumD_at rs hd
    obtain ⟨s, hs1, hs2⟩ := hall.at he
    obtain ⟨G4, e4, dx⟩ := y G3 e3.gg e3.gh
    have e34 := e12.trans (e3.trans e4)
    refine gp2 x G4 H3' _ dx e4.gh fun σ' ⟨u, t, du, dt, eσ⟩ => ?_
    subst eσ
    have hjl : j < ss.length := (List.getElem?_eq_some_iff.mp hs1).1
    have hdrop : ss.drop j = s :: ss.drop (j + 1) := by
      rw [List.drop_eq_getElem_cons hjl]
      congr 1
      exact Option.some.inj ((List.getElem?_eq_getElem hjl).symm.trans hs1)
    rw [hdrop, wrongFrom] at hw
    obtain ⟨px, py, hsr, hsx, hsy⟩ := id hs2
    have r3 : rowD 3 e = true := hsr.row rfl
    have i0 := PR_it (K := K) 0 (PV (σ := [some v, some u, some t]) (i := 2) dt) r3
    have i1 := PR_it (K := K) 1 (PV (σ := [some v, some u, some t]) (i := 2) dt) r3
    rw [hsr.at 0] at i0
    rw [hsr.at 1] at i1
    obtain ⟨ts, htr, hta⟩ := id hsx
    refine tIf_use (b := wrongAt j s) (TR.eq (TR_or (TR_not (TR_tB (PR_call (PRA_one (PV dt)) ⟨e, s, rfl, rfl, hs2, hform s (List.mem_of_getElem? hs1)⟩))) fun _ => TR_and (TR_test (PR_op RR2_eqI (PV du) PR_int)) fun _ => TR_or (TR_test (PR_op RR2_neI i0 PR_int)) fun _ => TR_test (PR_op RR2_gtI (PR_len i1 htr.seq) PR_int)) ?_) e4.gh fun H5 e5 => ?_
    · unfold wrongAt
      show (!okS s || (decide ((j : Int) = 0) && (decide ((s.part : Int) ≠ 0) || decide ((0 : Int) < ((itemsD px).length : Nat))))) = _
      rw [htr.items, hta.len]
      congr 2
      · exact decide_eq_decide.mpr (by omega)
      · congr 1
        · exact decide_eq_decide.mpr (by omega)
        · exact decide_eq_decide.mpr (by omega)
    cases hb : wrongAt j s with
    | true =>
      rw [hb, if_pos rfl] at hw
      refine iteT (tRet_use (e4.gh.trans e5) (PV du) fun v' G' H' x dv => k v' G' H' ((e34.trans (Ext.more e4.gh e5)).trans x) ?_)
      rw [← hw]; exact dv
    | false =>
      rw [hb, if_neg (by decide)] at hw
      exact iteF ⟨G4, some u, some t, (e3.trans e4).trans (Ext.more e4.gh e5), rfl, hw⟩
  · rintro σ H3 ⟨G3, x1, x2, e3, rfl, hw⟩
    rw [enumD_len, hall.len, List.drop_length] at hw
    dsimp only
    refine tRet_use e3.gh PR_non fun v' G' H' x dv => k v' G' H' ((e12.trans e3).trans x) ?_
    rw [← hw]; exact dv
end
end K50
set_option Elab.async false
set_option linter.all false
set_option maxRecDepth 100000
set_option maxHeartbeats 4000000
/-! K50c: is_agent; the class Proto -/
namespace K50
open PySem PySem.Spec PyProof.Rows L2 PD StX RZ
abbrev sIsAgent : Stmt := top 16
section
variable {P : Program} {w : World} {K : PySem.W.Frag} {mg : Str → Option Value} {base : Heap}
/-! ### is_agent -/
def wordsS : List Str := ["cipher", "seal", "label", "word", "nothing", "takes", "puts", "protocol"]
def alphaS : Str := "abcdefghijklmnopqrstuvwxyz"
def agentD (x : Str) : Bool := (decide (1 ≤ (x.length : Int)) && decide ((x.length : Int) ≤ 8)) && (!(wordsS.any fun z => decide (z = x)) && x.cps.toList.all fun c => decide (c ∈ alphaS.cps.toList))
structure TAgent (K : PySem.W.Frag) (mg : Str → Option Value) (a : Addr) : Prop where
  gl : mg "WORDS" = some (.ref a)
  it : ∀ H, SqL K H a (wordsS.map .str) ∨ SqT K H a (wordsS.map .str)
  al : ∃ t, mg "ALPHABET" = some (.str alphaS t)
abbrev nAgent : List Str := ["thing", "sign"]
theorem scIsAgent : FnScope nAgent ["thing"] (defScope sIsAgent) := ⟨rfl, rfl, rfl, by decide +kernel, rfl, by decide +kernel, by decide +kernel⟩
def DAgent (ds : List PyData) (d : PyData) : Prop := ∃ x : Str, ds = [.str x] ∧ d = .bool (agentD x) ∧ x.length ≤ 1000 ∧ x.cps.size ≤ 1000
abbrev FIsAgent (P : Program) (w : World) (K : PySem.W.Frag) (mg : Str → Option Value) (base : Heap) : Prop := Fn P w K mg base CX0 "is_agent" 1 1 (spP DAgent)
theorem RR_lenS {z : Str} (hz : z.length ≤ sizeLine) : RR (fun xs H Q => ∃ z, xs = [.str z] ∧ z.length ≤ sizeLine ∧ Q (.int z.length) H) [.str z] (.int z.length) := fun vs G H Q hs hd k => by
  obtain ⟨x, rfl, hx⟩ := hd.one
  cases hx
  exact ⟨z, rfl, hz, k _ G H (.refl hs) (.int _)⟩
def signs (z : Str) : List PyData := z.cps.toList.map fun c => .str ⟨#[c]⟩
theorem WR_str {σ : L2.St} {G : Hp} {te : TE} {z : Str} (h : PR te σ G (.str z)) : WR (iStr te) σ G (signs z) := fun H R hs k => h H _ hs fun v G1 H1 e1 dv => by
  cases dv
  refine ⟨z, rfl, k _ G1 H1 e1 ⟨?_⟩⟩
  have el : (signs z).length = z.cps.size := by simp [signs]
  rw [el]
  refine walk_str.mono (fun _ _ => trivial) fun i H x H' hi hs y => ?_
  obtain ⟨rfl, c, hc, rfl⟩ := y
  refine ⟨.str ⟨#[c]⟩, ?_, Same.refl _, fun G2 g2 h2 => ⟨G2, .refl h2, .str _⟩⟩
  rw [signs, List.getElem?_map, Array.getElem?_toList, hc]; rfl
theorem RR2_sign {c : Nat} {z : Str} : RR2 (fun x y H Q => ∃ (c : Nat) (z : Str), x = .str ⟨#[c]⟩ ∧ y = .str z ∧ Q (.bl (decide (c ∈ z.cps.toList))) H) (.str ⟨#[c]⟩) (.str z) (.bool (decide (c ∈ z.cps.toList))) := fun x y G H Q hs h1 h2 k => by
  cases h1; cases h2
  exact ⟨c, z, rfl, rfl, k _ G H (.refl hs) (.bl _)⟩
theorem fn_isAgent {aW : Addr} (D : Df K mg "is_agent" sIsAgent) (T : TAgent K mg aW) (m1 : mg "isinstance" = none) (m2 : mg "str" = none) (m3 : mg "len" = none) (m4 : mg "all" = none) : FIsAgent P w K mg base := by
  refine D.pure scIsAgent (by rintro ds d ⟨x, rfl, _⟩; rfl) rfl (fun _ _ _ _ _ _ us hl => match us, hl with | [_], _ => rfl) fun f cdv A outer s0 H E G vs ds d Q hr hG hv hD k => ?_
  obtain ⟨x, rfl, rfl, hz, hz2⟩ := hD
  obtain ⟨v, rfl, da⟩ := hv.one
  have hsz : sizeLine = 16777216 := sizeLine_eq
  obtain ⟨tA, gA⟩ := T.al
  refine ⟨_, pss_cons (ps_if (PW.pt (pw_or (pt_not (pt_val (xe_isi (K := K) (U := "str") m1 m2 (by decide +kernel) (pv 0)))) (pw_or (pt_not (pt_chain op_le op_le pe_int (pe_callB call_len_str (by rfl) m3 (by decide +kernel) (pa_cons (pv 0) pa_nil)) pe_int))
      (pw_or1 (xt_inS (K := K) (pv 0) (pe_glob (v := .ref aW) rfl T.gl rfl)))))) (pss_one (ps_ret pe_bl)) pss_nil)
    (pss_one (ps_ret (xe_all (K := K) m4 (xe_lc1 (tt := tYes) nAgent (defScope sIsAgent) 1 (pi_str (pv 0)) (by decide +kernel) scIsAgent.nd (.inr rfl) (fun _ _ _ _ _ => pts_nil)
      (fun _ _ _ _ _ => pe_cmpR op_in_sign (pv 1) (pe_glob (v := .str alphaS) rfl gA ⟨_, rfl⟩) (by rfl)))))), ?_⟩
  unfold agentD at k
  refine tIf_use (b := !((decide (1 ≤ (x.length : Int)) && decide ((x.length : Int) ≤ 8))) || (wordsS.any fun z => decide (z = x))) (TR.eq (TR_or (TR_not (TR_tB (PR_isi (PV da) rfl))) fun _ => TR_or (TR_not (TR_test (PR_chain RR2_leI RR2_leI PR_int (PR_CB (RR_lenS (by omega)) (PRA_one (PV da))) PR_int))) fun _ => TR_test (PR_inK T.it (PV da))) (by simp)) hG fun H1 e1 => ?_
  have e2 : PR (tCB (rAll K) (tCons (tLc (iStr (tVar 0)) (gName 1) tYes (tOp (fun x y H Q => ∃ (c : Nat) (z : Str), x = .str ⟨#[c]⟩ ∧ y = .str z ∧ Q (.bl (decide (c ∈ z.cps.toList))) H) (tVar 1) (tC (.str alphaS))) [1]) tNil)) [some v, none] G (.bool (x.cps.toList.all fun c => decide (c ∈ alphaS.cps.toList))) :=
    PR_all (bs := x.cps.toList) (q := fun c => decide (c ∈ alphaS.cps.toList)) (PR_map1 (enc := fun c => .str ⟨#[c]⟩) (WR_str (PV da)) (fun _ => rfl) (fun G1 b v h1 hb dv => PR_op RR2_sign (PV dv) PR_str) (by simp; omega))
  cases h1 : (decide (1 ≤ (x.length : Int)) && decide ((x.length : Int) ≤ 8)) with
  | false =>
    rw [h1] at k
    exact iteT (tRet_bl (hG.trans e1) fun v G' H' x dv => k v G' H' ((Ext.more hG e1).trans x) dv)
  | true =>
    cases h2 : (wordsS.any fun z => decide (z = x)) with
    | true =>
      rw [h1, h2] at k
      exact iteT (tRet_bl (hG.trans e1) fun v G' H' x dv => k v G' H' ((Ext.more hG e1).trans x) dv)
    | false =>
      rw [h1, h2] at k
      refine iteF (nxt ?_)
      dsimp only
      exact tRet_use (hG.trans e1) e2 fun v G' H' x dv => k v G' H' ((Ext.more hG e1).trans x) dv
/-! ### Proto -/
abbrev iInit : Stmt := inClass (top 25) 0
abbrev iSteps : Stmt := inClass (top 25) 2
abbrev iEq : Stmt := inClass (top 25) 3
def fNames : List Str := ["own_name", "own_steps"]
/-- a Proto as data -/
def protoD (C : Addr) (n : Str) (ss : List Stp) : PyData := insD C fNames [.str n, encSS ss]
/-- right steps of a protocol -/
structure Right (ss : List Stp) : Prop where
  ne : ss ≠ []
  len : ss.length ≤ 1000
  form : ∀ s ∈ ss, FormS s
  no : wrongFrom 0 ss = none
structure AgentN (x : Str) : Prop where
  ok : agentD x = true
  len : x.length ≤ 1000
  siz : x.cps.size ≤ 1000
  sh : Sh 1 (.str x)
structure TProto (K : PySem.W.Frag) (mg : Str → Option Value) (C : Addr) : Prop where
  gl : mg "Proto" = some (.ref C)
  cl : PCls K C
  n1 : NoAttr K C "own_name"
  n2 : NoAttr K C "own_steps"
abbrev nInit : List Str := ["self", "name", "steps", "wrong", "part", "takes", "puts"]
theorem scInit : FnScope nInit ["self", "name", "steps"] (defScope iInit) := ⟨rfl, rfl, rfl, by decide +kernel, rfl, by decide +kernel, by decide +kernel⟩
/-- what the instance's making promises -/
def spInit (C : Addr) : Sp := fun vs H Q _ => ∃ (x dx : Addr) (vn vt : V) (G : Hp) (n : Str) (rs : PyData) (ss : List Stp), vs = [.ref x, vn, vt] ∧ H x = some (.ins C dx []) ∧ Same G H ∧ G x = none ∧ Dq G vn (.str n) ∧ Dq G vt rs ∧ LzSS rs ss ∧ Right ss ∧ AgentN n ∧
  ∀ v G' H', Same G G' → Same G' H' → G' x = none → (∀ a, G' a ≠ none → G a ≠ none ∨ H a = none) → (∀ a o, a ≠ x → H a = some o → H' a = some o) → H' x = some (.ins C dx (fNames.zip [vn, v])) → Dq G' v (encSS ss) → Q .non H'
theorem LzS.lens {a : PyData} {s : Stp} (h : LzS a s) : ∃ x y, Row a [.int s.part, x, y] ∧ LzLs x s.tk ∧ LzLs y s.pt := h
theorem okLays.le {ls : List Lay} (h : okLays ls) : ls.length ≤ 1000 := h.1
theorem kept_of {x : PyData} {ls : List Lay} (h : LzLs x ls) : (itemsD x).map tupD = ls.map encL := by
  obtain ⟨ds, h1, h2⟩ := h
  rw [h1.items]
  clear h1
  induction h2 with
  | nil => rfl
  | cons h t ih => rw [List.map_cons, List.map_cons, ih, tupD_of h]
theorem kept_seq {x : PyData} {ls : List Lay} (h : LzLs x ls) : isSeq x = true ∧ ∀ d ∈ itemsD x, isSeq d = true := by
  obtain ⟨ds, h1, h2⟩ := h
  refine ⟨h1.seq, fun d hd => ?_⟩
  rw [h1.items] at hd
  obtain ⟨l, _, q⟩ := h2.mem hd
  exact Row.seq q
/-- [(part, f(takes), g(puts)) for part, takes, puts in steps] -/
theorem PR_steps {σ : L2.St} {G : Hp} {te t1 t2 : TE} {rs : PyData} {ss : List Stp} {i j l : Nat} {vs : List Nat} (h : PR te σ G rs) (hl : LzSS rs ss) (hz : ss.length ≤ 1000) (hset : ∀ u v t, wipe ((((wipe σ vs).set i (some u)).set j (some v)).set l (some t)) vs = wipe σ vs)
    (hi : ∀ u v t, ((((wipe σ vs).set i (some u)).set j (some v)).set l (some t))[i]? = some (some u))
    (h1 : ∀ G1 u v t x (s : Stp), Same G G1 → s ∈ ss → Dq G1 v x → LzLs x s.tk → PR t1 ((((wipe σ vs).set i (some u)).set j (some v)).set l (some t)) G1 (.list (s.tk.map encL)))
    (h2 : ∀ G1 u v t x (s : Stp), Same G G1 → s ∈ ss → Dq G1 t x → LzLs x s.pt → PR t2 ((((wipe σ vs).set i (some u)).set j (some v)).set l (some t)) G1 (.list (s.pt.map encL))) :
    PR (tLc (iSeq K te) (gSeq K 3 (gCons (gName i) (gCons (gName j) (gCons (gName l) gNil)))) tYes (tTup (tCons (tVar i) (tCons t1 (tCons t2 tNil)))) vs) σ G (encSS ss) := by
  obtain ⟨ds, hrow, hall⟩ := hl
  obtain ⟨zs, e1, e2, h3⟩ := hall.zip
  have key : PR (tLc (iSeq K te) (gSeq K 3 (gCons (gName i) (gCons (gName j) (gCons (gName l) gNil)))) tYes (tTup (tCons (tVar i) (tCons t1 (tCons t2 tNil)))) vs) σ G (.list ((zs.filter fun _ => true).map fun z => encS z.2)) := by
    refine PR_lc (enc := fun z : PyData × Stp => z.1) (p := fun _ => true) (f := fun z => encS z.2) (S := fun G1 z σ' => ∃ x y u v t, LzLs x z.2.tk ∧ LzLs y z.2.pt ∧ Dq G1 u (.int z.2.part) ∧ Dq G1 v x ∧ Dq G1 t y ∧ σ' = (((wipe σ vs).set i (some u)).set j (some v)).set l (some t)) ?_ ?_ ?_ ?_
    · rw [e1, ← hrow.items]
      exact WR_seq h hrow.seq
    · intro x b G1 H k hb dx hs hk
      obtain ⟨px, py, hr, hx, hy⟩ := h3 b hb
      exact gp3 hr x G1 H k dx hs fun σ' ⟨u, v, t, du, dv, dt, e⟩ => hk σ' (e ▸ hset u v t) ⟨px, py, u, v, t, hx, hy, du, dv, dt, e⟩
    · rintro G1 b σ' hG hb ⟨px, py, u, v, t, hx, hy, du, dv, dt, rfl⟩
      have hm : b.2 ∈ ss := by rw [← e2]; exact List.mem_map_of_mem hb
      refine ⟨TR_yes, fun _ => ?_⟩
      exact (PR_tup (PRA_cons (PR_var (hi u v t) du) (PRA_two (h1 G1 u v t px b.2 hG hm dv hx) (h2 G1 u v t py b.2 hG hm dt hy))) (by show 3 ≤ sizeLine; rw [sizeLine_eq]; omega)).eq rfl
    · have := congrArg List.length e2
      rw [List.length_map] at this
      rw [sizeLine_eq]; omega
  refine key.eq ?_
  rw [List.filter_eq_self.mpr fun _ _ => rfl, encSS, ← e2, List.map_map]
  rfl
/-- the same over steps as they are kept -/
theorem PR_map3 {σ : L2.St} {G : Hp} {te t1 t2 : TE} {ss : List Stp} {i j l : Nat} {vs : List Nat} (h : PR te σ G (encSS ss)) (hz : ss.length ≤ 1000) (hset : ∀ u v t, wipe ((((wipe σ vs).set i (some u)).set j (some v)).set l (some t)) vs = wipe σ vs)
    (hi : ∀ u v t, ((((wipe σ vs).set i (some u)).set j (some v)).set l (some t))[i]? = some (some u))
    (h1 : ∀ G1 u v t (s : Stp), Dq G1 v (.list (s.tk.map encL)) → PR t1 ((((wipe σ vs).set i (some u)).set j (some v)).set l (some t)) G1 (.list (s.tk.map encL)))
    (h2 : ∀ G1 u v t (s : Stp), Dq G1 t (.list (s.pt.map encL)) → PR t2 ((((wipe σ vs).set i (some u)).set j (some v)).set l (some t)) G1 (.list (s.pt.map encL))) :
    PR (tLc (iSeq K te) (gSeq K 3 (gCons (gName i) (gCons (gName j) (gCons (gName l) gNil)))) tYes (tTup (tCons (tVar i) (tCons t1 (tCons t2 tNil)))) vs) σ G (encSS ss) := by
  have key : PR (tLc (iSeq K te) (gSeq K 3 (gCons (gName i) (gCons (gName j) (gCons (gName l) gNil)))) tYes (tTup (tCons (tVar i) (tCons t1 (tCons t2 tNil)))) vs) σ G (.list ((ss.filter fun _ => true).map encS)) := by
    refine PR_lc (enc := encS) (p := fun _ => true) (f := encS) (S := fun G1 s σ' => ∃ u v t, Dq G1 u (.int s.part) ∧ Dq G1 v (.list (s.tk.map encL)) ∧ Dq G1 t (.list (s.pt.map encL)) ∧ σ' = (((wipe σ vs).set i (some u)).set j (some v)).set l (some t)) (WR_seq h rfl) ?_ ?_ (by rw [sizeLine_eq]; omega)
    · intro x b G1 H k hb dx hs hk
      exact gp3 (.inr rfl) x G1 H k dx hs fun σ' ⟨u, v, t, du, dv, dt, e⟩ => hk σ' (e ▸ hset u v t) ⟨u, v, t, du, dv, dt, e⟩
    · rintro G1 b σ' hG hb ⟨u, v, t, du, dv, dt, rfl⟩
      exact ⟨TR_yes, fun _ => PR_tup (PRA_cons (PR_var (hi u v t) du) (PRA_two (h1 G1 u v t b dv) (h2 G1 u v t b dt))) (by show 3 ≤ sizeLine; rw [sizeLine_eq]; omega)⟩
  refine key.eq ?_
  rw [List.filter_eq_self.mpr fun _ _ => rfl, encSS]
theorem ok_init {C : Addr} (T : TProto K mg C) (FA : FIsAgent P w K mg base) (FW : FWrong P w K mg base) (FK : FKeptL P w K mg base) : ∀ f fd, Fun K "__init__" "Proto.__init__" iInit f fd → FnOk P w K mg base CX0 8 f fd ["self", "name", "steps"] (spInit C) := fun f fd F => by
  refine F.ok (N := nInit) (k := 7) scInit (by rintro vs H Q E ⟨x, dx, vn, vt, G, n, rs, ss, rfl, _⟩; rfl) fun cdv A outer s0 H vs Q E hr hsp => ?_
  obtain ⟨x, dx, vn, vt, G, n, rs, ss, rfl, hx, hG, gx, dn, ds, hl, hR, hA, k⟩ := hsp
  refine ⟨_, pss_cons (ps_if (pt_not (pt_val (pe_fn FA (hr.mono (by decide)) (by rfl) pass0 (pa_cons (pv 1) pa_nil)))) (pss_one ps_never) pss_nil)
    (pss_cons (ps_set (i := 3) scInit.nd rfl (.inl rfl) (pe_fn FW hr (by rfl) pass0 (pa_cons (pv 2) pa_nil)))
    (pss_cons (ps_if (pt_cmpR op_notN (pv 3) pe_non (nomark _)) (pss_one ps_never) pss_nil)
    (pss_cons (ps_fld (pv 0) (pv 1) rfl)
    (pss_one (ps_fld (pv 0) (pe_lc (own := [("part", 4), ("takes", 5), ("puts", 6)]) (g := gSeq K 3 (gCons (gName 4) (gCons (gName 5) (gCons (gName 6) gNil)))) (tt := tYes) rfl scInit.nd (xi_seq (K := K) (pv 2)) (blkOk_by (N := nInit) (sc := defScope iInit) (by decide +kernel))
      (fun _ _ _ _ _ => pg3 (K := K) rfl (pg_name (i := 4) scInit.nd rfl (.inl rfl)) (pg_name (i := 5) scInit.nd rfl (.inl rfl)) (pg_name (i := 6) scInit.nd rfl (.inl rfl))) (fun _ _ _ _ _ => pts_nil)
      (fun _ _ _ _ _ => pe_tup (pa_cons (pv 4) (pa_cons (pe_fn FK (hr.mono (by decide)) (by rfl) pass0 (pa_cons (pv 5) pa_nil)) (pa_cons (pe_fn FK (hr.mono (by decide)) (by rfl) pass0 (pa_cons (pv 6) pa_nil)) pa_nil))))) rfl))))), ?_⟩
  refine tIf_use (b := false) (TR.eq (TR_not (TR_tB (PR_call (PRA_one (PV dn)) ⟨n, rfl, rfl, hA.len, hA.siz⟩))) (by rw [hA.ok]; rfl)) hG fun H1 e1 => iteF (nxt ?_)
  refine tSet_use (hG.trans e1) (PR_call (PRA_one (PV ds)) ⟨rs, ss, rfl, rfl, hl, hR.ne, hR.len, hR.form⟩) fun v3 G2 H2 e2 dv3 => ?_
  rw [hR.no] at dv3
  have e12 := (Ext.more hG e1).trans e2
  have x2 : H2 x = some (.ins C dx []) := e12.hh _ _ hx
  have gx2 : G2 x = none := by
    cases q : G2 x with
    | none => rfl
    | some o =>
      rcases e12.fr x (by rw [q]; simp) with z | z
      · exact absurd gx z
      · rw [hx] at z; cases z
  refine tIf_use (b := false) (TR.eq (TR_test (PR_op RR2_notN (PV (i := 3) dv3) PR_non)) rfl) e2.gh fun H3 e3 => iteF (nxt ?_)
  have x3 : H3 x = some (.ins C dx []) := e3 _ _ x2
  refine ⟨vn, rfl, .ref x, rfl, x, C, dx, [], rfl, x3, T.cl.cl, T.n1, (by show 0 < 1000; decide), ?_⟩
  have gh4 : Same G2 (upd H3 x (.ins C dx (putF "own_name" vn []))) := same_off (e2.gh.trans e3) gx2
  dsimp only [sFld]
  refine PR_steps (K := K) (σ := [some (.ref x), some vn, some vt, some v3, none, none, none]) (i := 4) (j := 5) (l := 6) (vs := [4, 5, 6]) (PV (i := 2) (ds.up e12.gg)) hl hR.len (fun _ _ _ => rfl) (fun _ _ _ => rfl) (fun G1 u v t px s g hs dv hx => ?_) (fun G1 u v t px s g hs dt hx => ?_) _ _ gh4 fun v5 G5 H5 e5 dv5 => ?_
  · exact (PR_call (PRA_one (PR_var rfl dv)) ⟨px, rfl, rfl, (kept_seq hx).1, (kept_seq hx).2, hx.le (hR.form s hs).2.1⟩).eq (congrArg PyData.list (kept_of hx))
  · exact (PR_call (PRA_one (PR_var rfl dt)) ⟨px, rfl, rfl, (kept_seq hx).1, (kept_seq hx).2, hx.le (hR.form s hs).2.2⟩).eq (congrArg PyData.list (kept_of hx))
  have x5 : H5 x = some (.ins C dx (putF "own_name" vn [])) := e5.hh _ _ upd_same
  have gx5 : G5 x = none := by
    cases q : G5 x with
    | none => rfl
    | some o =>
      rcases e5.fr x (by rw [q]; simp) with z | z
      · exact absurd gx2 z
      · rw [upd_same] at z; cases z
  refine ⟨.ref x, rfl, x, C, dx, _, rfl, x5, T.cl.cl, T.n2, (by show 1 < 1000; decide), ?_⟩
  refine k v5 G5 _ (e12.gg.trans e5.gg) (same_off e5.gh gx5) gx5 (fun a q => ?_) (fun a o ne q => ?_) upd_same dv5
  · rcases e5.fr a q with z | z
    · exact e12.fr a z
    · exact .inr ((e12.hh.trans e3).free (NdefX.upd_none z))
  · rw [upd_ne ne]
    refine e5.hh _ _ ?_
    rw [upd_ne ne]
    exact e3 _ _ (e12.hh _ _ q)
/-- Proto(name, steps) -/
theorem PR_make {σ : L2.St} {G : Hp} {t : TA} {E : XK} {C : Addr} {n : Str} {rs : PyData} {ss : List Stp} (h : PRA t σ G [.str n, rs]) (hl : LzSS rs ss) (hR : Right ss) (hA : AgentN n) : PR (tMake C (spInit C) [] E t) σ G (protoD C n ss) := fun H Q hs k =>
  h H _ hs fun vs G1 H1 e1 dvs x dx nx ndx ne => by
    obtain ⟨vn, vt, rfl, dn, dt⟩ := dvs.two
    have gx : G1 x = none := e1.gh.free nx
    have gdx : G1 dx = none := e1.gh.free ndx
    have xd : x ≠ dx := Ne.symm ne
    refine ⟨x, dx, vn, vt, G1, n, rs, ss, rfl, upd_same, same_off (same_off e1.gh gdx) gx, gx, dn, dt, hl, hR, hA, fun v G' H' g1 g2 g3 g4 g5 g6 g7 => ⟨rfl, ?_⟩⟩
    have hdx : H' dx = some (.own x) := g5 dx _ ne (by rw [upd_ne ne, upd_same])
    have back : ∀ a, upd (upd H1 dx (.own x)) x (.ins C dx []) a = none → H1 a = none := fun a q => NdefX.upd_none (NdefX.upd_none q)
    have s1 : Same G' (upd G' dx (.own x)) := fun a o q => by
      by_cases z : a = dx
      · subst z
        rw [upd_same]
        have := g2 _ _ q
        rw [hdx] at this
        exact this
      · rw [upd_ne z]; exact q
    have s2 : Same (upd G' dx (.own x)) (upd (upd G' dx (.own x)) x (.ins C dx (fNames.zip [vn, v]))) := same_new (by rw [upd_ne xd]; exact g3)
    refine k (.ref x) (upd (upd G' dx (.own x)) x (.ins C dx (fNames.zip [vn, v]))) H' (e1.trans ⟨fun a o q => ?_, g1.trans (s1.trans s2), fun a o q => ?_, fun a q => ?_⟩) ?_
    · have ax : a ≠ x := ne_of_none q nx
      have adx : a ≠ dx := ne_of_none q ndx
      exact g5 a o ax (by rw [upd_ne ax, upd_ne adx]; exact q)
    · by_cases z : a = x
      · subst z; rw [upd_same] at q; rw [g6]; exact q
      · rw [upd_ne z] at q
        by_cases y : a = dx
        · subst y; rw [upd_same] at q; rw [hdx]; exact q
        · rw [upd_ne y] at q; exact g2 _ _ q
    · by_cases z : a = x
      · subst z; exact .inr nx
      · rw [upd_ne z] at q
        by_cases y : a = dx
        · subst y; exact .inr ndx
        · rw [upd_ne y] at q
          exact (g4 a q).elim .inl fun w => .inr (back a w)
    · refine .ins upd_same (by rw [upd_ne ne, upd_same]) rfl (.cons ?_ (.cons ?_ .nil))
      · exact dn.up (g1.trans (s1.trans s2))
      · exact g7.up (s1.trans s2)
/-! ### steps() -/
abbrev nSteps : List Str := ["self", "part", "takes", "puts"]
theorem scSteps : FnScope nSteps ["self"] (defScope iSteps) := ⟨rfl, rfl, rfl, by decide +kernel, rfl, by decide +kernel, by decide +kernel⟩
def DSteps (C : Addr) (ds : List PyData) (d : PyData) : Prop := ∃ n ss, ds = [protoD C n ss] ∧ d = encSS ss ∧ ss.length ≤ 1000
theorem PR_list1 {σ : L2.St} {G : Hp} {te : TE} {a : PyData} {ds : List PyData} (h : PR te σ G a) (hs : Row a ds) : PR (tCB (rListQ K) (tCons te tNil)) σ G (.list ds) := by
  rcases hs with rfl | rfl
  · exact PR_CB RR_listL (PRA_one h)
  · exact PR_CB RR_listT (PRA_one h)
theorem fld0 {f : Str} (e : f = "own_name") : ∀ vs : List V, vs.length = 2 → (fNames.zip vs).lookup f = vs[0]? := fun vs hl => by
  match vs, hl with
  | [a, b], _ => subst e; rfl
theorem fld1 {f : Str} (e : f = "own_steps") : ∀ vs : List V, vs.length = 2 → (fNames.zip vs).lookup f = vs[1]? := fun vs hl => by
  match vs, hl with
  | [a, b], _ => subst e; rfl
theorem PR_name {σ : L2.St} {G : Hp} {te : TE} {C : Addr} {n : Str} {ss : List Stp} (T : TProto K mg C) (h : PR te σ G (protoD C n ss)) : PR (tFld K te "own_name") σ G (.str n) := PR_fld T.cl.cl T.n1 h (fld0 rfl) rfl
theorem PR_stepsF {σ : L2.St} {G : Hp} {te : TE} {C : Addr} {n : Str} {ss : List Stp} (T : TProto K mg C) (h : PR te σ G (protoD C n ss)) : PR (tFld K te "own_steps") σ G (encSS ss) := PR_fld T.cl.cl T.n2 h (fld1 rfl) rfl
theorem lz_list {x : PyData} {ls : List Lay} (h : LzLs x ls) (hx : x = .list (ls.map encL)) : Row x (ls.map encL) := .inl hx
theorem ok_steps {C : Addr} (T : TProto K mg C) (m1 : mg "list" = none) : ∀ f fd, Fun K "steps" "Proto.steps" iSteps f fd → FnOk P w K mg base CX0 1 f fd ["self"] (spP (DSteps C)) := fun f fd F => by
  refine F.ok (N := nSteps) (k := 0) scSteps (by rintro vs H Q E ⟨G, ds, d, _, h1, ⟨n, ss, rfl, _⟩, _⟩; exact h1.len) fun cdv A outer s0 H vs Q E hr hsp => ?_
  obtain ⟨G, ds, d, hG, hv, ⟨n, ss, rfl, rfl, hz⟩, k⟩ := hsp
  obtain ⟨v, rfl, da⟩ := hv.one
  refine ⟨_, pss_one (ps_ret (pe_lc (own := [("part", 1), ("takes", 2), ("puts", 3)]) (g := gSeq K 3 (gCons (gName 1) (gCons (gName 2) (gCons (gName 3) gNil)))) (tt := tYes) rfl scSteps.nd (xi_seq (K := K) (xe_fld (K := K) (pv 0))) (blkOk_by (N := nSteps) (sc := defScope iSteps) (by decide +kernel))
      (fun _ _ _ _ _ => pg3 (K := K) rfl (pg_name (i := 1) scSteps.nd rfl (.inl rfl)) (pg_name (i := 2) scSteps.nd rfl (.inl rfl)) (pg_name (i := 3) scSteps.nd rfl (.inl rfl))) (fun _ _ _ _ _ => pts_nil)
      (fun _ _ _ _ _ => pe_tup (pa_cons (pv 1) (pa_cons (xe_list (K := K) m1 (pv 2)) (pa_cons (xe_list (K := K) m1 (pv 3)) pa_nil)))))), ?_⟩
  have h0 := PR_stepsF (K := K) T (PV (σ := [some v, none, none, none]) (i := 0) da)
  refine (PR_map3 (K := K) (i := 1) (j := 2) (l := 3) (vs := [1, 2, 3]) h0 hz (fun _ _ _ => rfl) (fun _ _ _ => rfl) (fun G1 u v t s dv => ?_) (fun G1 u v t s dt => ?_)) H Q hG k
  · exact PR_list1 (PR_var rfl dv) (.inl rfl)
  · exact PR_list1 (PR_var rfl dt) (.inl rfl)
end
end K50
set_option Elab.async false
set_option linter.all false
set_option maxRecDepth 100000
set_option maxHeartbeats 4000000
/-! PdI: == and in by an own __eq__, with both answers -/
namespace PD
open PySem PySem.Spec PyProof.Rows L2 StX RZ
open PySem.SeqAt
open AutoSeq1 (wpAny_loadPart')
open MeetsSeq MeetsSeq2 MeetsSeq3 SeqRoads2
section
variable {prog : Program} {w : World} {A : Around} {R : Result → Shared → Prop}
/-- at each turn the list is read anew; the i-th item is compared -/
def ListC (prog : Program) (w : World) (A : Around) (E : Value → Shared → Prop) (l : Addr) (x : Value) (bs : List Bool) (I : Nat → Shared → Prop) : Prop :=
  ∀ i s, I i s → ∃ (items : Array Value) (n : Nat), s.heap.get? l = some { cls := .type "list", data := .seq items n } ∧ items.size = bs.length ∧
    ∀ h1 : i < items.size, wpAny (model prog w) A.in1 (eqBool items[i] x) (fun r s' => bs[i]? = some r ∧ I (i + 1) s') E s
theorem contains_loopC (l : Addr) (x : Value) (bs : List Bool) (I : Nat → Shared → Prop) (hl : ListC prog w A (fun e s' => R (.error e) s') l x bs I) (fin : ∀ i s, I i s → R (.ok (.ret (.bool (bs.any id)))) s) (k : Nat) :
    ∀ i : Nat, bs.length - i = k → (bs.take i).any id = false → ∀ s, I i s →
      wpAny (model prog w) A.in1 (Builtin.«list.__contains__.loop» ⟨[.ref l, x, rawInt i], []⟩) (GQ.FinOf prog w A R) (fun e s' => R (.error e) s') s := by
  induction k with
  | zero =>
    intro i hk hno s h
    obtain ⟨items, n, hl1, hs1, _⟩ := hl _ _ h
    have hR := fin i s h
    have e0 : bs.take i = bs := List.take_of_length_le (by omega)
    rw [e0] at hno
    rw [hno] at hR
    have hi : items[((i : Nat) : Int).toNat]? = none := by simp; omega
    obtain ⟨hp, g, d, tk, os⟩ := s
    wp_walk using wpAny_loadPart' hl1
    rw [hi]
    wp_walk
    exact hR
  | succ k ih =>
    intro i hk hno s h
    obtain ⟨items, n, hl1, hs1, turn⟩ := hl _ _ h
    have hlt : i < items.size := by omega
    have ht := turn hlt
    obtain ⟨hp, g, d, tk, os⟩ := s
    have hi : items[((i : Nat) : Int).toNat]? = some items[i] := by simp [hlt]
    wp_walk using wpAny_loadPart' hl1
    rw [hi]
    refine wpAny_bind (wpAny_mono ht (fun r s2 h2 => ?_) fun _ _ y => y)
    obtain ⟨hr, h2⟩ := h2
    have etk : bs.take (i + 1) = bs.take i ++ [r] := by rw [List.take_add_one, hr]; rfl
    cases r with
    | true =>
      have hR := fin _ _ h2
      have e1 : bs.any id = true := List.any_eq_true.mpr ⟨true, List.mem_of_getElem? hr, rfl⟩
      rw [e1] at hR
      obtain ⟨hp2, g2, d2, tk2, os2⟩ := s2
      wp_walk
      exact hR
    | false =>
      have hrec := ih (i + 1) (by omega) (by rw [etk, List.any_append, hno]; rfl) s2 h2
      have hc : ((i : Int) + 1) = ((i + 1 : Nat) : Int) := by omega
      obtain ⟨hp2, g2, d2, tk2, os2⟩ := s2
      wp_walk
      rw [hc]
      refine ⟨plainId_quiet plain_contains_loop _, codeAny_builtin entry_contains_loop ?_⟩
      rw [Around.under_plainId plain_contains_loop _]
      exact hrec
theorem list_containsC (l : Addr) (x : Value) (bs : List Bool) (I : Nat → Shared → Prop) (hl : ListC prog w A (fun e s' => R (.error e) s') l x bs I) (fin : ∀ i s, I i s → R (.ok (.ret (.bool (bs.any id)))) s) {s : Shared} (h : I 0 s) :
    wpAny (model prog w) A.in1 (Builtin.«list.__contains__» ⟨[.ref l, x], []⟩) (GQ.FinOf prog w A R) (fun e s' => R (.error e) s') s := by
  obtain ⟨items, n, hl1, hs1, _⟩ := hl _ _ h
  have hrec := contains_loopC (A := A) (R := R) l x bs I hl fin _ 0 rfl rfl s h
  obtain ⟨hp, g, d, tk, os⟩ := s
  wp_walk using wpAny_loadPart' hl1
  refine ⟨plainId_quiet plain_contains_loop _, codeAny_builtin entry_contains_loop ?_⟩
  rw [Around.under_plainId plain_contains_loop _]
  exact hrec
end
/-! ### the own == of a class -/
/-- what the text's own __eq__ of the class at C answers: D -/
structure OwnEq (X : Cx) (n : Nat) (C : Addr) (D : List PyData → PyData → Prop) : Prop where
  ex : ∃ (f : Addr) (fd : FuncData) (ps : List Str), PySem.W.findIn X.K (.ref C) "__eq__" = some (some (.ref f)) ∧ PySem.W.isFn X.K (.ref f) = true ∧ Binds X.K fd ps [] ∧ FnOk X.prog X.w X.K X.mg X.base CX0 n f fd ps (spP D)
  len : ∀ ds d, D ds d → ds.length = 2
section
variable {X : Cx} {n : Nat} {C : Addr} {D : List PyData → PyData → Prop}
/-- two instances, what their == gives -/
def EqI (C : Addr) (D : List PyData → PyData → Prop) (x y : V) (b : Bool) (H : Hp) : Prop := ∃ (G : Hp) (xs ys : List Str) (es fs : List PyData), Same G H ∧ Dq G x (insD C xs es) ∧ Dq G y (insD C ys fs) ∧ D [insD C xs es, insD C ys fs] (.bool b)
theorem EqI.up {x y : V} {b : Bool} {H H' : Hp} (h : EqI C D x y b H) (e : Same H H') : EqI C D x y b H' := let ⟨G, xs, ys, es, fs, h1, r⟩ := h; ⟨G, xs, ys, es, fs, h1.trans e, r⟩
theorem rc_own (O : OwnEq X n C D) {A : Around} {pins : List (Addr × Obj)} {s : Shared} {σ : L2.St} {H : Hp} {x y : V} {u v : Value} {b : Bool} (sb : Sub X n A) (I : Inv X pins σ H s) (rx : RelV x u) (ry : RelV y v) (h : EqI C D x y b H) :
    wpAny (model X.prog X.w) A (richCompare .Eq u v) (fun r s' => r = .bool b ∧ ∃ H', Inv X pins σ H' s' ∧ Same H H') X.xe s := by
  obtain ⟨f, fd, ps, hs, hf, hb, F⟩ := O.ex
  obtain ⟨G, xs, ys, es, fs, hG, dx, dy, hD⟩ := h
  obtain ⟨a, xa, vs, rfl, h1, _⟩ := dx.insE
  obtain ⟨c, xc, ws, rfl, h2, _⟩ := dy.insE
  cases rx
  cases ry
  have ha := hG _ _ h1
  have hc := hG _ _ h2
  obtain ⟨mA, J, _⟩ := ins_get I.hok ha
  obtain ⟨mB, J', _⟩ := ins_get I.hok hc
  obtain ⟨od, J, _⟩ := J.look
  obtain ⟨od', J', _⟩ := J'.look
  obtain ⟨m, hF⟩ := I.fr
  refine PySem.W.cmp_K (tb := .ref C) (op := .Eq) sb.room.units0 hF I.ok.mod.kin J J'.type (by simp [PySem.W.notFirst]) hs hf ?_
  have hsp : spP D [.ref a, .ref c] H (fun v H' => v = .bl b ∧ Same H H') fun _ _ _ => False := ⟨G, _, _, hG, .cons dx (.cons dy .nil), hD, fun v G' H' e dv => by cases dv; exact ⟨rfl, e.hh⟩⟩
  have e1 := I.env0
  have e0 : Env0 X.prog X.w X.K X.mg X.base A X.stack s H := ⟨sb.fr.trans e1.frames, e1.mod, e1.bs, e1.bsz, e1.funs, e1.frf, e1.hok, e1.bare⟩
  have hl := F.len _ _ _ _ hsp
  have bd := hb s [.ref a, .ref c] I.kIn (by simpa using hl)
  rw [List.append_nil] at bd
  refine wpAny_call (codeAny_mono (F.run A X.stack s H ⟨[.ref a, .ref c], []⟩ [.ref a, .ref c] [.ref a, .ref c] _ _ sb.room e0 bd (.cons rfl (.cons rfl .nil)) hsp) fun r s' hq => ?_)
  cases r with
  | error e => exact (pass0 : Passes CX0 X fun _ _ _ => False) pins σ H s e s' I hq
  | ok fl =>
    cases fl with
    | ret w =>
      obtain ⟨z, H', I', rz, ez, ex⟩ := I.after hq
      subst ez
      obtain rfl : w = Value.bool b := rz
      exact ⟨rfl, H', I', ex⟩
    | next => exact False.elim hq
    | brk => exact False.elim hq
    | cont => exact False.elim hq
/-- within a list's methods: the same object is equal to itself -/
theorem eq_own (O : OwnEq X n C D) {A : Around} {pins : List (Addr × Obj)} {s : Shared} {σ : L2.St} {H : Hp} {x y : V} {u v : Value} {b : Bool} (sb : Sub X n A) (I : Inv X pins σ H s) (rx : RelV x u) (ry : RelV y v) (h : EqI C D x y b H) (hr : x = y → b = true) :
    wpAny (model X.prog X.w) A (eqBool u v) (fun r s' => r = b ∧ ∃ H', Inv X pins σ H' s' ∧ Same H H') X.xe s := by
  have h0 := rc_own O sb I rx ry h
  obtain ⟨G, xs, ys, es, fs, hG, dx, dy, hD⟩ := h
  obtain ⟨a, xa, vs, rfl, h1, _⟩ := dx.insE
  obtain ⟨c, xc, ws, rfl, h2, _⟩ := dy.insE
  cases rx
  cases ry
  by_cases hac : a = c
  · subst hac
    rw [hr rfl]
    exact SeqAt.EqAt.same (A := A) (s := s) (.ref a) X.prog X.w X.xe _ ⟨rfl, H, I, Same.refl _⟩
  · refine GQ.eqBool_refG hac (wpAny_mono h0 (fun r s' q => ?_) fun _ _ y => y)
    exact ⟨b, q.1, rfl, q.2⟩
/-- x == y -/
def rEqI (C : Addr) (D : List PyData → PyData → Prop) : R2 := fun x y H Q => ∃ b, EqI C D x y b H ∧ ∀ H', Same H H' → Q (.bl b) H'
theorem op_eqI (O : OwnEq X n C D) (hr : Room n X.A) : OpR X (compareOp .Eq) (rEqI C D) := by
  intro pins s σ H x y v u Q I rx ry ⟨b, h, q⟩
  show wpAny (model X.prog X.w) X.A (richCompare .Eq v u) (EP X pins σ Q) X.xe s
  refine wpAny_mono (rc_own O ⟨hr, rfl⟩ I rx ry h) (fun r s' z => ?_) fun _ _ y => y
  obtain ⟨e, H', I', ex⟩ := z
  subst e
  exact ⟨.bl b, H', I', rfl, q H' ex⟩
/-- x in l, x not in l: l a list of instances -/
def rNotInI (C : Addr) (D : List PyData → PyData → Prop) : R2 := fun x y H Q => ∃ (a : Addr) (xs : List V) (bs : List Bool), y = .ref a ∧ H a = some (.lst xs) ∧ xs.length = bs.length ∧ (∀ (i : Nat) z b, xs[i]? = some z → bs[i]? = some b → EqI C D z x b H ∧ (z = x → b = true)) ∧
  ∀ H', Same H H' → Q (.bl (!bs.any id)) H'
theorem op_notInI (O : OwnEq X n C D) (hr : Room (n + 1) X.A) : OpR X (compareOp .NotIn) (rNotInI C D) := by
  intro pins s σ H x y v u Q I rx ry ⟨a, xs, bs, e, ha, hl, hb, q⟩
  subst e
  cases ry
  obtain ⟨its, rv, p, hz⟩ := I.list (SqL.of ha)
  obtain ⟨z0, its0, k0, rv0, e0⟩ := I.hok a _ ha
  refine PyProof.Rows.NotIn_slot ⟨_, e0, rfl⟩ PySem.F.slot_list_contains (GQ.call_here PySem.F.slot_list_contains ⟨_, e0, rfl⟩ PySem.F.entry_list_contains (PySem.F.args_list_contains_2 _ _) ?_)
  refine list_containsC (R := wants _ X.xe) a v bs (fun _ s' => ∃ H', Inv X pins σ H' s' ∧ Same H H') (fun i s' h => ?_) (fun i s' h => ?_) ⟨H, I, Same.refl _⟩
  · obtain ⟨H1, I1, x1⟩ := id h
    obtain ⟨z1, its1, k1, rv1, e1⟩ := I1.hok a _ (x1 _ _ ha)
    refine ⟨its1.toArray, k1, e1, by rw [List.size_toArray, ← rv1.length, hl], fun h1 => ?_⟩
    have hi : i < its1.length := by simpa using h1
    have hx : i < xs.length := by rw [rv1.length]; exact hi
    obtain ⟨w', hw, rw'⟩ := rv1.get (List.getElem?_eq_getElem hx)
    have ew : its1.toArray[i] = w' := by
      have : its1[i]? = some its1[i] := List.getElem?_eq_getElem hi
      rw [hw] at this
      simpa using (Option.some.inj this).symm
    have hbi : bs[i]? = some bs[i] := List.getElem?_eq_getElem (by omega)
    obtain ⟨k1', k2'⟩ := hb i _ _ (List.getElem?_eq_getElem hx) hbi
    rw [ew]
    refine wpAny_mono (eq_own O (A := X.A.in1) ⟨hr.in1, rfl⟩ I1 rw' rx (k1'.up x1) k2') (fun r s2 z => ?_) fun _ _ y => y
    obtain ⟨er, H2, I2, x2⟩ := z
    exact ⟨by rw [er]; exact hbi, H2, I2, x1.trans x2⟩
  · obtain ⟨H1, I1, x1⟩ := h
    exact wpAny_truthy_bool ⟨.bl _, H1, I1, rfl, q H1 x1⟩
end
section
variable {σ : L2.St} {G : Hp} {ta tb te : TE} {C : Addr} {D : List PyData → PyData → Prop} {xs ys : List Str} {es fs : List PyData} {b : Bool}
theorem RR2_eqOwn (h : D [insD C xs es, insD C ys fs] (.bool b)) : RR2 (rEqI C D) (insD C xs es) (insD C ys fs) (.bool b) := fun x y G H Q hs h1 h2 k => ⟨b, ⟨G, xs, ys, es, fs, hs, h1, h2, h⟩, fun H' e => k _ G H' (.more hs e) (.bl _)⟩
end
/-! ### what a value stands for is one -/
theorem zip_inj {α β : Type} : ∀ {xs xs' : List α} {ys ys' : List β}, xs.length = ys.length → xs'.length = ys'.length → xs.zip ys = xs'.zip ys' → xs = xs' ∧ ys = ys'
  | [], [], [], [], _, _, _ => ⟨rfl, rfl⟩
  | [], _ :: _, [], _ :: _, _, _, h => by simp at h
  | _ :: _, [], _ :: _, [], _, _, h => by simp at h
  | x :: xs, x' :: xs', y :: ys, y' :: ys', h1, h2, h => by
    simp only [List.zip_cons_cons, List.cons.injEq, Prod.mk.injEq] at h
    obtain ⟨e1, e2⟩ := zip_inj (by simpa using h1) (by simpa using h2) h.2
    exact ⟨by rw [h.1.1, e1], by rw [h.1.2, e2]⟩
mutual
theorem Dq.inj {G : Hp} : ∀ (d d' : PyData) (v : V), Dq G v d → Dq G v d' → d = d'
  | .none, d', _, h, h' => by cases h; cases h'; rfl
  | .bool b, d', _, h, h' => by cases h; cases h'; rfl
  | .int i, d', _, h, h' => by cases h; cases h'; rfl
  | .str x, d', _, h, h' => by cases h; cases h'; rfl
  | .list ds, d', _, h, h' => by
    cases h with
    | lst h1 h2 =>
      cases h' with
      | lst k1 k2 => rw [h1] at k1; cases k1; rw [DqAll.inj ds _ _ h2 k2]
      | tup k1 k2 => rw [h1] at k1; cases k1
      | dict k1 => rw [h1] at k1; cases k1
      | ins k1 _ _ _ => rw [h1] at k1; cases k1
  | .tuple ds, d', _, h, h' => by
    cases h with
    | tup h1 h2 =>
      cases h' with
      | lst k1 k2 => rw [h1] at k1; cases k1
      | tup k1 k2 => rw [h1] at k1; cases k1; rw [DqAll.inj ds _ _ h2 k2]
      | dict k1 => rw [h1] at k1; cases k1
      | ins k1 _ _ _ => rw [h1] at k1; cases k1
  | .dict [], d', _, h, h' => by
    cases h with
    | dict h1 =>
      cases h' with
      | lst k1 k2 => rw [h1] at k1; cases k1
      | tup k1 k2 => rw [h1] at k1; cases k1
      | dict k1 => rfl
      | ins k1 _ _ _ => rw [h1] at k1; cases k1
  | .dict [(k, .tuple ds)], d', _, h, h' => by
    cases h with
    | ins h1 h2 h3 h4 =>
      cases h' with
      | lst k1 k2 => rw [h1] at k1; cases k1
      | tup k1 k2 => rw [h1] at k1; cases k1
      | dict k1 => rw [h1] at k1; cases k1
      | ins k1 k2 k3 k4 =>
        rw [h1] at k1
        injection k1 with k1
        injection k1 with e1 e2 e3
        obtain ⟨e4, e5⟩ := zip_inj h3 k3 e3
        subst e1 e4 e5
        rw [DqAll.inj ds _ _ h4 k4]
theorem DqAll.inj {G : Hp} : ∀ (ds ds' : List PyData) (vs : List V), DqAll G vs ds → DqAll G vs ds' → ds = ds'
  | [], _, _, h, h' => by cases h; cases h'; rfl
  | d :: ds, _, _, h, h' => by
    cases h with
    | cons h1 h2 =>
      cases h' with
      | cons k1 k2 => rw [Dq.inj d _ _ h1 k1, DqAll.inj ds _ _ h2 k2]
end
end PD
set_option Elab.async false
set_option linter.all false
set_option maxRecDepth 100000
set_option maxHeartbeats 4000000
/-! K50d: Proto's ==; first_stop, room, with_layer, mended_steps, kept_mend -/
namespace K50
open PySem PySem.Spec PyProof.Rows L2 PD StX RZ
abbrev sStop : Stmt := top 30
abbrev sRoom : Stmt := top 32
abbrev sWithL : Stmt := top 34
abbrev sMendS : Stmt := top 35
abbrev sKeptM : Stmt := top 36
/-! ### equal data -/
theorem eqvAll_map {α : Type} [DecidableEq α] {f : α → PyData} (h : ∀ x y, PyData.eqv (f x) (f y) = decide (x = y)) : ∀ xs ys : List α, PyData.eqvAll (xs.map f) (ys.map f) = decide (xs = ys)
  | [], [] => by simp [PyData.eqvAll]
  | [], _ :: _ => by simp [PyData.eqvAll]
  | _ :: _, [] => by simp [PyData.eqvAll]
  | x :: xs, y :: ys => by
    rw [List.map_cons, List.map_cons, PyData.eqvAll, h, eqvAll_map h xs ys, Bool.eq_iff_iff]
    simp
theorem eqv_lays (ls ms : List Lay) : PyData.eqv (.list (ls.map encL)) (.list (ms.map encL)) = decide (ls = ms) := by
  rw [PyData.eqv]; exact eqvAll_map eqv_lay ls ms
theorem eqv_step (s t : Stp) : PyData.eqv (encS s) (encS t) = decide (s = t) := by
  have e : PyData.eqv (encS s) (encS t) = (((s.part : Int) == (t.part : Int)) && (PyData.eqv (.list (s.tk.map encL)) (.list (t.tk.map encL)) && (PyData.eqv (.list (s.pt.map encL)) (.list (t.pt.map encL)) && true))) := by
    simp only [encS, PyData.eqv, PyData.eqvAll]
  rw [e, eqv_lays, eqv_lays, Bool.eq_iff_iff]
  simp only [Bool.and_true, Bool.and_eq_true, beq_iff_eq, decide_eq_true_eq]
  rw [Int.ofNat_inj]
  cases s; cases t; simp
theorem eqv_steps (ss ts : List Stp) : PyData.eqv (encSS ss) (encSS ts) = decide (ss = ts) := by
  rw [encSS, encSS, PyData.eqv]; exact eqvAll_map eqv_step ss ts
section
variable {P : Program} {w : World} {K : PySem.W.Frag} {mg : Str → Option Value} {base : Heap}
/-! ### Proto's == -/
abbrev nEq : List Str := ["self", "other"]
theorem scEq : FnScope nEq ["self", "other"] (defScope iEq) := ⟨rfl, rfl, rfl, by decide +kernel, rfl, by decide +kernel, by decide +kernel⟩
def DEq (C : Addr) (ds : List PyData) (d : PyData) : Prop := ∃ n ss m ts, ds = [protoD C n ss, protoD C m ts] ∧ d = .bool (decide (n = m) && decide (ss = ts))
theorem ok_eq {C : Addr} (T : TProto K mg C) (m1 : mg "isinstance" = none) : ∀ f fd, Fun K "__eq__" "Proto.__eq__" iEq f fd → FnOk P w K mg base CX0 1 f fd ["self", "other"] (spP (DEq C)) := fun f fd F => by
  refine F.ok (N := nEq) (k := 0) scEq (by rintro vs H Q E ⟨G, ds, d, _, h1, ⟨n, ss, m, ts, rfl, _⟩, _⟩; exact h1.len) fun cdv A outer s0 H vs Q E hr hsp => ?_
  obtain ⟨G, ds, d, hG, hv, ⟨n, ss, m, ts, rfl, rfl⟩, k⟩ := hsp
  obtain ⟨v, u, rfl, dv, du⟩ := hv.two
  have hu := hr.u65
  refine ⟨_, pss_cons (ps_if (pt_not (pt_val (xe_isiC (K := K) m1 T.gl (pv 1)))) (pss_one (ps_ret pe_bl)) pss_nil)
    (pss_one (ps_ret (pe_and (pe_cmpR op_eq (xe_fld (K := K) (pv 0)) (xe_fld (K := K) (pv 1)) (nomark _)) (pe_one (xe_eq (K := K) hu (xe_fld (K := K) (pv 0)) (xe_fld (K := K) (pv 1))))))), ?_⟩
  refine tIf_use (b := false) (TR_not (TR_tB (PR_isiC T.cl (PV du)))) hG fun H1 e1 => iteF (nxt ?_)
  dsimp only
  refine tRet_use (hG.trans e1) (PR.eq (PR_andV (PR_op RR2_eqS (PR_name T (PV dv)) (PR_name T (PV du))) fun _ => PR_op (RR2_eq ((lzSS_enc ss).sh.shaped (by decide)) ((lzSS_enc ts).sh.shaped (by decide))) (PR_stepsF T (PV dv)) (PR_stepsF T (PV du))) (by rw [eqv_steps])) fun v G' H' x dv => k v G' H' ((Ext.more hG e1).trans x) dv
/-! ### first_stop -/
def stopFrom : Nat → List Lay → List Stp → Option Nat
  | _, _, [] => none
  | k, msg, s :: ss => if msg.take s.tk.length = s.tk then stopFrom (k + 1) (s.pt ++ msg.drop s.tk.length) ss else some k
abbrev nStop : List Str := ["protocol", "layers", "index", "_", "takes", "puts"]
theorem scStop : FnScope nStop ["protocol"] (defScope sStop) := ⟨rfl, rfl, rfl, by decide +kernel, rfl, by decide +kernel, by decide +kernel⟩
def Short (ss : List Stp) : Prop := ss.length ≤ 1000 ∧ ∀ s ∈ ss, s.tk.length ≤ 1000 ∧ s.pt.length ≤ 1000
theorem Right.short {ss : List Stp} (h : Right ss) : Short ss := ⟨h.len, fun s hs => ⟨(h.form s hs).2.1.1, (h.form s hs).2.2.1⟩⟩
def DStop (C : Addr) (ds : List PyData) (d : PyData) : Prop := ∃ n ss, ds = [protoD C n ss] ∧ d = optD (stopFrom 0 [] ss) ∧ Short ss
abbrev FStop (P : Program) (w : World) (K : PySem.W.Frag) (mg : Str → Option Value) (base : Heap) (C : Addr) : Prop := Fn P w K mg base CX0 "first_stop" 1 1 (spP (DStop C))
theorem lays_sh (ls : List Lay) : Sh 3 (.list (ls.map encL)) := (lzLs_enc ls).sh
theorem eqv_of (ls ms : List Lay) : (!PyData.eqv (.list (ls.map encL)) (.list (ms.map encL))) = decide (ls ≠ ms) := by rw [eqv_lays]; simp
theorem fn_stop {C : Addr} (D : Df K mg "first_stop" sStop) (T : TProto K mg C) (m1 : mg "len" = none) (m2 : mg "enumerate" = none) : FStop P w K mg base C := by
  refine D.pure scStop (by rintro ds d ⟨n, ss, rfl, _⟩; rfl) rfl (fun _ _ _ _ _ _ us hl => match us, hl with | [_], _ => rfl) fun f cdv A outer s0 H E G vs ds d Q hr hG hv hD k => ?_
  obtain ⟨n, ss, rfl, rfl, hlen, hsh⟩ := hD
  obtain ⟨v, rfl, da⟩ := hv.one
  have hu := hr.u65
  have hsz : sizeLine = 16777216 := sizeLine_eq
  refine ⟨_, pss_cons (ps_set (i := 1) scStop.nd rfl (.inl rfl) (pe_lst pa_nil))
    (pss_cons (ps_for PassesOwn.never rfl (pi_enumS (K := K) m2 (pa_cons (xe_fld (K := K) (pv 0)) pa_nil)) (pg_tup rfl (pgs_cons (pg_name (i := 2) scStop.nd rfl (.inl rfl)) (pgs_cons (pg3 (K := K) rfl (pg_name (i := 3) scStop.nd rfl (.inl rfl)) (pg_name (i := 4) scStop.nd rfl (.inl rfl)) (pg_name (i := 5) scStop.nd rfl (.inl rfl))) pgs_nil)))
      (pss_cons (ps_if (xt_ne (K := K) hu (xe_slTo (K := K) (pv 1) (xe_len (K := K) m1 (pv 4))) (pv 4)) (pss_one (ps_ret (pv 2))) pss_nil)
      (pss_one (ps_set (i := 1) scStop.nd rfl (.inl rfl) (pe_lst (xa_star (K := K) (pv 5) (xa_star (K := K) (xe_slFrom (K := K) (pv 1) (xe_len (K := K) m1 (pv 4))) pa_nil)))))))
    (pss_one (ps_ret pe_non))), ?_⟩
  refine tSet_use hG (PR_lst PRA_nil (by show 0 ≤ sizeLine; omega)) fun vl G1 H1 e1 dl => ?_
  have h0 := PR_stepsF (K := K) T (PV (σ := [some v, some vl, none, none, none, none]) (i := 0) (da.up e1.gg))
  refine tFor_use e1.gh (WR_enumS (K := K) (ds := ss.map encS) (PRA_one h0) rfl) fun J G2 H2 e2 dw => ?_
  have e12 := e1.trans e2
  refine for_pt dw (fun j σ H' => ∃ G' vm x1 x2 x3 x4 msg, Ext G2 H2 G' H' ∧ σ = [some v, some vm, x1, x2, x3, x4] ∧ Dq G' vm (.list (msg.map encL)) ∧ msg.length ≤ j * 1000 ∧ stopFrom j msg (ss.drop j) = stopFrom 0 [] ss) ⟨G2, vl, none, none, none, none, [], .refl e2.gh, rfl, dl.up e2.gg, by simp, rfl⟩ ?_ ?_ ?_
  · rintro j σ H' hj ⟨G', vm, x1, x2, x3, x4, msg, x, _⟩
    exact x.gg.trans x.gh
  · rintro j d x σ H3 H3' hd ⟨G3, vm, x1, x2, x3, x4, msg, e3, rfl, dm, hml, hw⟩ s3 y
    obtain ⟨e, he, rfl⟩ := enumD_at _ hd
    rw [List.getElem?_map] at he
    obtain ⟨s, hs1, rfl⟩ : ∃ s, ss[j]? = some s ∧ encS s = e := by
      cases q : ss[j]? with
      | none => rw [q] at he; cases he
      | some s => rw [q] at he; exact ⟨s, rfl, Option.some.inj he⟩
    obtain ⟨G4, e4, dx⟩ := y G3 e3.gg e3.gh
    have e34 := e12.trans (e3.trans e4)
    refine Gp_tup (Gps_cons Gp_nm fun σ1 => Gps_cons (gp3 (Or.inr rfl)) fun σ2 => Gps_nil) rfl x G4 H3' _ dx e4.gh fun σ' ⟨σ1, ⟨u, du, e1'⟩, σ2, ⟨u3, u4, u5, d3, d4, d5, e2'⟩, e3'⟩ => ?_
    subst e3' e2' e1'
    have hjl : j < ss.length := (List.getElem?_eq_some_iff.mp hs1).1
    have hdrop : ss.drop j = s :: ss.drop (j + 1) := by
      rw [List.drop_eq_getElem_cons hjl]
      congr 1
      exact Option.some.inj ((List.getElem?_eq_getElem hjl).symm.trans hs1)
    rw [hdrop, stopFrom] at hw
    obtain ⟨ht1, ht2⟩ := hsh s (List.mem_of_getElem? hs1)
    have dm4 := dm.up e4.gg
    have nl : ∀ {σ : L2.St} {G1 : Hp}, Same G4 G1 → σ[4]? = some (some u4) → PR (tCB (rLenQ K) (tCons (tVar 4) tNil)) σ G1 (.int s.tk.length) := fun g h => (PR_len (PR_var h (d4.up g)) rfl).eq (by simp [itemsD])
    refine tIf_use (b := decide (msg.take s.tk.length ≠ s.tk)) (TR.eq (TR_test (PR_op (RR2_ne ((lays_sh (msg.take s.tk.length)).shaped (by decide)) ((lays_sh s.tk).shaped (by decide))) ((PR_slTo (PV dm4) (nl (Same.refl _) rfl)).eq (by rw [List.map_take])) (PV d4))) (eqv_of _ _)) e4.gh fun H5 e5 => ?_
    by_cases hb : msg.take s.tk.length = s.tk
    · rw [if_pos hb] at hw
      rw [decide_eq_false (by simp [hb])]
      refine iteF (nxt ?_)
      dsimp only
      refine tSet_use (d := .list ((s.pt ++ msg.drop s.tk.length).map encL)) (e4.gh.trans e5) ?_ fun v6 G6 H6 e6 d6 => ?_
      · refine (PR_lst (PRA_star (PV d5) (PRA_star (PR_slFrom (PV dm4) (nl (Same.refl _) rfl)) PRA_nil)) ?_).eq ?_
        · simp only [List.length_append, List.length_map, List.length_drop, List.length_nil]
          have : j * 1000 ≤ 1000 * 1000 := Nat.mul_le_mul_right _ (by omega)
          omega
        · rw [List.append_nil, List.map_append, List.map_drop]
      · refine ⟨G6, v6, some u, some u3, some u4, some u5, _, (e3.trans e4).trans ((Ext.more e4.gh e5).trans e6), rfl, d6, ?_, hw⟩
        simp only [List.length_append, List.length_drop]
        omega
    · rw [if_neg hb] at hw
      rw [decide_eq_true (by exact hb)]
      refine iteT (tRet_use (e4.gh.trans e5) (PV du) fun v' G' H' x dv => k v' G' H' ((e34.trans (Ext.more e4.gh e5)).trans x) ?_)
      rw [← hw]; exact dv
  · rintro σ H3 ⟨G3, vm, x1, x2, x3, x4, msg, e3, rfl, dm, hml, hw⟩
    rw [enumD_len, List.length_map, List.drop_length] at hw
    dsimp only
    refine tRet_use e3.gh PR_non fun v' G' H' x dv => k v' G' H' ((e12.trans e3).trans x) ?_
    rw [← hw]; exact dv
end
end K50
set_option Elab.async false
set_option linter.all false
set_option maxRecDepth 100000
set_option maxHeartbeats 4000000
/-! K50e: room, with_layer, mended_steps, kept_mend -/
namespace K50
open PySem PySem.Spec PyProof.Rows L2 PD StX RZ
def stp (ss : List Stp) (i : Nat) : Stp := ss.getD i ⟨0, [], []⟩
theorem stp_at {ss : List Stp} {i : Nat} (h : i < ss.length) : ss[i]? = some (stp ss i) := by
  rw [stp, List.getD_eq_getElem?_getD, List.getElem?_eq_getElem h]; rfl
/-- how many layers a step puts, at most how many the next one takes -/
def roomS (ss : List Stp) (i : Nat) : Nat := if i + 1 < ss.length then min (stp ss i).pt.length (stp ss (i + 1)).tk.length else (stp ss i).pt.length
inductive Mnd where
  | add (i p : Nat) (l : Lay)
  | shift (i p t : Nat)
deriving DecidableEq
def Mnd.ix : Mnd → Nat
  | .add i _ _ => i
  | .shift i _ _ => i
def encM : Mnd → PyData
  | .add i p l => .tuple [.str "add", .int i, .int p, encL l]
  | .shift i p t => .tuple [.str "shift", .int i, .int p, .int t]
def withL (ls : List Lay) : Mnd → List Lay
  | .add _ p l => ls.take p ++ (l :: ls.drop p)
  | .shift _ p t => (ls.take p ++ ls.drop (p + 1)).take t ++ ((ls.getD p (.wo, 0)) :: (ls.take p ++ ls.drop (p + 1)).drop t)
def mendAt (ss : List Stp) (m : Mnd) : List Stp := ss.set m.ix ⟨(stp ss m.ix).part, (stp ss m.ix).tk, withL (stp ss m.ix).pt m⟩
def mendS (ss : List Stp) (m : Mnd) : List Stp :=
  if m.ix + 1 < ss.length then (mendAt ss m).set (m.ix + 1) ⟨(stp ss (m.ix + 1)).part, withL (stp ss (m.ix + 1)).tk m, (stp ss (m.ix + 1)).pt⟩ else mendAt ss m
/-- of right form, but for what comes -/
def FormM (ss : List Stp) : Mnd → Prop
  | .add i p l => i < ss.length ∧ p ≤ roomS ss i ∧ okLay l
  | .shift i p t => i < ss.length ∧ p < roomS ss i ∧ t < roomS ss i ∧ p ≠ t
def LzM (a : PyData) : Mnd → Prop
  | .add i p l => ∃ y, Row a [.str "add", .int i, .int p, y] ∧ LzL y l
  | .shift i p t => Row a [.str "shift", .int i, .int p, .int t]
theorem lzM_enc (m : Mnd) : LzM (encM m) m := by
  cases m with
  | add i p l => exact ⟨encL l, .inr rfl, lzL_enc l⟩
  | shift i p t => exact .inr rfl
section
variable {P : Program} {w : World} {K : PySem.W.Frag} {mg : Str → Option Value} {base : Heap}
/-! ### room -/
abbrev nRoom : List Str := ["steps", "index", "most"]
theorem scRoom : FnScope nRoom ["steps", "index"] (defScope sRoom) := ⟨rfl, rfl, rfl, by decide +kernel, rfl, by decide +kernel, by decide +kernel⟩
def DRoom (ds : List PyData) (d : PyData) : Prop := ∃ (ss : List Stp) (i : Nat), ds = [encSS ss, .int i] ∧ d = .int (roomS ss i) ∧ i < ss.length
abbrev FRoom (P : Program) (w : World) (K : PySem.W.Frag) (mg : Str → Option Value) (base : Heap) : Prop := Fn P w K mg base CX0 "room" 1 2 (spP DRoom)
theorem PR_stepAt {σ : L2.St} {G : Hp} {ta tb : TE} {ss : List Stp} {i : Nat} (h : PR ta σ G (encSS ss)) (hi : PR tb σ G (.int i)) (hl : i < ss.length) : PR (tOp (rIxL K) ta tb) σ G (encS (stp ss i)) :=
  PR_op (RR2_ixL (j := i) (by rw [List.getElem?_map, stp_at hl]; rfl)) h hi
theorem lenSS {σ : L2.St} {G : Hp} {te : TE} {ss : List Stp} (h : PR te σ G (encSS ss)) : PR (tCB (rLenQ K) (tCons te tNil)) σ G (.int ss.length) := (PR_len h rfl).eq (by simp [encSS, itemsD])
theorem lenLs {σ : L2.St} {G : Hp} {te : TE} {ls : List Lay} (h : PR te σ G (.list (ls.map encL))) : PR (tCB (rLenQ K) (tCons te tNil)) σ G (.int ls.length) := (PR_len h rfl).eq (by simp [itemsD])
theorem fn_room (D : Df K mg "room" sRoom) (m1 : mg "len" = none) (m2 : mg "min" = none) : FRoom P w K mg base := by
  refine D.pure scRoom (by rintro ds d ⟨ss, i, rfl, _⟩; rfl) rfl (fun _ _ _ _ _ _ us hl => match us, hl with | [_, _], _ => rfl) fun f cdv A outer s0 H E G vs ds d Q hr hG hv hD k => ?_
  obtain ⟨ss, i, rfl, rfl, hi⟩ := hD
  obtain ⟨v, u, rfl, dv, du⟩ := hv.two
  refine ⟨_, pss_cons (ps_set (i := 2) scRoom.nd rfl (.inl rfl) (xe_len (K := K) m1 (xe_ixT (K := K) (xe_ixL (K := K) (pv 0) (pv 1)) pe_int)))
    (pss_one (ps_ret (pe_ifExp (pt_cmpR op_lt (pe_op op_add (pv 1) pe_int) (xe_len (K := K) m1 (pv 0)) (nomark _)) (pe_callB (call_min2 rfl) rfl m2 (by decide +kernel) (pa_cons (pv 2) (pa_cons (xe_len (K := K) m1 (xe_ixT (K := K) (xe_ixL (K := K) (pv 0) (pe_op op_add (pv 1) pe_int)) pe_int)) pa_nil))) (pv 2)))), ?_⟩
  refine tSet_use hG (lenLs (PR_op (RR2_ixT (j := 2) rfl) (PR_stepAt (PV dv) (PV du) hi) PR_int)) fun v2 G1 H1 e1 d2 => ?_
  have p1 : ∀ {σ : L2.St}, σ[1]? = some (some u) → PR (tOp (rI0 fun i j => .int (i + j)) (tVar 1) (tC (.int 1))) σ G1 (.int ((i + 1 : Nat) : Int)) := fun h => (PR_op RR2_addI (PR_var h (du.up e1.gg)) PR_int).eq (by congr 1)
  refine tRet_use e1.gh (PR_if (TR.eq (TR_test (PR_op RR2_ltI (p1 rfl) (lenSS (PV (dv.up e1.gg))))) (c := decide (i + 1 < ss.length)) (decide_eq_decide.mpr (by omega))) (fun h => ?_) (fun h => ?_)) fun v' G' H' x dv => k v' G' H' (e1.trans x) dv
  · have h := of_decide_eq_true h
    refine (PR_CB RR_min2 (PRA_two (PV d2) (lenLs (PR_op (RR2_ixT (j := 1) rfl) (PR_stepAt (PV (dv.up e1.gg)) (p1 rfl) h) PR_int)))).eq ?_
    rw [roomS, if_pos h]
    congr 1
    omega
  · have h := of_decide_eq_false h
    refine (PV d2).eq ?_
    rw [roomS, if_neg h]
/-! ### with_layer -/
abbrev nWithL : List Str := ["layers", "mend", "word", "_", "place", "more", "rest"]
theorem scWithL : FnScope nWithL ["layers", "mend"] (defScope sWithL) := ⟨rfl, rfl, rfl, by decide +kernel, rfl, by decide +kernel, by decide +kernel⟩
/-- its place is within the layers -/
def InL (ls : List Lay) : Mnd → Prop
  | .add _ _ _ => True
  | .shift _ p _ => p < ls.length
def DWithL (ds : List PyData) (d : PyData) : Prop := ∃ (ls : List Lay) (m : Mnd), ds = [.list (ls.map encL), encM m] ∧ d = .list ((withL ls m).map encL) ∧ InL ls m ∧ ls.length ≤ 1000
abbrev FWithL (P : Program) (w : World) (K : PySem.W.Frag) (mg : Str → Option Value) (base : Heap) : Prop := Fn P w K mg base CX0 "with_layer" 1 2 (spP DWithL)
theorem pg4 {X : Cx} {x y z t : Str} {i j l m k : Nat} {p1 p2 p3 p4 pos : Pos} (hc : X.calm = true) (h1 : PG X (.Name x p1) (gName i)) (h2 : PG X (.Name y p2) (gName j)) (h3 : PG X (.Name z p3) (gName l)) (h4 : PG X (.Name t p4) (gName m)) (hK : X.K = K := by rfl) :
    PG X (.Tuple [.Name x p1, .Name y p2, .Name z p3, .Name t p4] k pos) (gSeq K 4 (gCons (gName i) (gCons (gName j) (gCons (gName l) (gCons (gName m) gNil))))) :=
  hK ▸ pg_seq (pg_tup hc (pgs_cons h1 (pgs_cons h2 (pgs_cons h3 (pgs_cons h4 pgs_nil))))) (pg_lst hc (pgs_cons h1 (pgs_cons h2 (pgs_cons h3 (pgs_cons h4 pgs_nil)))))
theorem gp4 {σ : L2.St} {a x y z t : PyData} {i j l m : Nat} (h : Row a [x, y, z, t]) : Gp (gSeq K 4 (gCons (gName i) (gCons (gName j) (gCons (gName l) (gCons (gName m) gNil))))) σ a (fun G σ' => ∃ u v w r, Dq G u x ∧ Dq G v y ∧ Dq G w z ∧ Dq G r t ∧ σ' = (((σ.set i (some u)).set j (some v)).set l (some w)).set m (some r)) := fun v G1 H k dv hs hk =>
  Gp_seq (Gps_cons Gp_nm fun σ1 => Gps_cons Gp_nm fun σ2 => Gps_cons Gp_nm fun σ3 => Gps_cons Gp_nm fun σ4 => Gps_nil) rfl h.seqOf v G1 H k dv hs fun σ' ⟨σ1, ⟨u, du, e1⟩, σ2, ⟨v, dv, e2⟩, σ3, ⟨t, dt, e3⟩, σ4, ⟨r, dr, e4⟩, e5⟩ => hk σ' ⟨u, v, t, r, du, dv, dt, dr, by rw [e5, e4, e3, e2, e1]⟩
theorem withL_len (ls : List Lay) (m : Mnd) : (withL ls m).length ≤ ls.length + 2 := by
  cases m <;> simp [withL] <;> omega
theorem fn_withL (D : Df K mg "with_layer" sWithL) : FWithL P w K mg base := by
  refine D.pure scWithL (by rintro ds d ⟨ls, m, rfl, _⟩; rfl) rfl (fun _ _ _ _ _ _ us hl => match us, hl with | [_, _], _ => rfl) fun f cdv A outer s0 H E G vs ds d Q hr hG hv hD k => ?_
  obtain ⟨ls, m, rfl, rfl, hin, hz⟩ := hD
  obtain ⟨v, u, rfl, dv, du⟩ := hv.two
  have hsz : sizeLine = 16777216 := sizeLine_eq
  refine ⟨_, pss_cons (ps_asg (pv 1) (pg4 (K := K) rfl (pg_name (i := 2) scWithL.nd rfl (.inl rfl)) (pg_name (i := 3) scWithL.nd rfl (.inl rfl)) (pg_name (i := 4) scWithL.nd rfl (.inl rfl)) (pg_name (i := 5) scWithL.nd rfl (.inl rfl))))
    (pss_cons (ps_if (pt_cmpR op_eq (pv 2) pe_str (nomark _)) (pss_one (ps_ret (pe_lst (xa_star (K := K) (xe_slTo (K := K) (pv 0) (pv 4)) (pa_cons (pv 5) (xa_star (K := K) (xe_slFrom (K := K) (pv 0) (pv 4)) pa_nil)))))) pss_nil)
    (pss_cons (ps_set (i := 6) scWithL.nd rfl (.inl rfl) (pe_lst (xa_star (K := K) (xe_slTo (K := K) (pv 0) (pv 4)) (xa_star (K := K) (xe_slFrom (K := K) (pv 0) (pe_op op_add (pv 4) pe_int)) pa_nil))))
    (pss_one (ps_ret (pe_lst (xa_star (K := K) (xe_slTo (K := K) (pv 6) (pv 5)) (pa_cons (xe_ixL (K := K) (pv 0) (pv 4)) (xa_star (K := K) (xe_slFrom (K := K) (pv 6) (pv 5)) pa_nil)))))))), ?_⟩
  cases m with
  | add i p l =>
    refine tSetP_use hG (PV du) (gp4 (Or.inr rfl)) fun σ' G2 H2 e2 ⟨u2, u3, u4, u5, d2, d3, d4, d5, eσ⟩ => ?_
    subst eσ
    refine tIf_use (b := true) (TR.eq (TR_test (PR_op RR2_eqS (PV d2) PR_str)) (by decide +kernel)) e2.gh fun H3 e3 => iteT ?_
    refine tRet_use (e2.gh.trans e3) ((PR_lst (PRA_star (PR_slTo (PV (dv.up e2.gg)) (PV d4)) (PRA_cons (PV d5) (PRA_star (PR_slFrom (PV (dv.up e2.gg)) (PV d4)) PRA_nil))) ?_).eq ?_) fun v' G' H' x dv' => k v' G' H' ((e2.trans (Ext.more e2.gh e3)).trans x) dv'
    · simp; omega
    · simp [withL, List.map_take, List.map_drop]
  | shift i p t =>
    have hp : p < ls.length := hin
    refine tSetP_use hG (PV du) (gp4 (Or.inr rfl)) fun σ' G2 H2 e2 ⟨u2, u3, u4, u5, d2, d3, d4, d5, eσ⟩ => ?_
    subst eσ
    refine tIf_use (b := false) (TR.eq (TR_test (PR_op RR2_eqS (PV d2) PR_str)) (by decide +kernel)) e2.gh fun H3 e3 => iteF (nxt ?_)
    dsimp only
    have dv2 := dv.up e2.gg
    refine tSet_use (d := .list ((ls.take p ++ ls.drop (p + 1)).map encL)) (e2.gh.trans e3) ((PR_lst (PRA_star (PR_slTo (PV dv2) (PV d4)) (PRA_star (PR_slFrom (n := p + 1) (PV dv2) ((PR_op RR2_addI (PV d4) PR_int).eq (by congr 1))) PRA_nil)) ?_).eq ?_) fun v6 G6 H6 e6 d6 => ?_
    · simp; omega
    · simp [List.map_take, List.map_drop]
    have e26 := (e2.trans (Ext.more e2.gh e3)).trans e6
    refine tRet_use e6.gh ((PR_lst (PRA_star (PR_slTo (PV d6) (PV (d5.up e6.gg))) (PRA_cons (d := encL (ls.getD p (.wo, 0))) (PR_op (RR2_ixL (j := p) ?_) (PV (dv2.up e6.gg)) (PV (d4.up e6.gg))) (PRA_star (PR_slFrom (PV d6) (PV (d5.up e6.gg))) PRA_nil))) ?_).eq ?_) fun v' G' H' x dv' => k v' G' H' (e26.trans x) dv'
    · rw [List.getElem?_map, List.getD_eq_getElem?_getD, List.getElem?_eq_getElem hp]; rfl
    · simp; omega
    · simp [withL, List.map_take, List.map_drop]
end
end K50
set_option Elab.async false
set_option linter.all false
set_option maxRecDepth 100000
set_option maxHeartbeats 4000000
/-! K50f: mended_steps, kept_mend -/
namespace K50
open PySem PySem.Spec PyProof.Rows L2 PD StX RZ
section
variable {P : Program} {w : World} {K : PySem.W.Frag} {mg : Str → Option Value} {base : Heap}
/-! ### mended_steps -/
abbrev nMendS : List Str := ["steps", "mend", "index", "found", "part", "takes", "puts"]
theorem scMendS : FnScope nMendS ["steps", "mend"] (defScope sMendS) := ⟨rfl, rfl, rfl, by decide +kernel, rfl, by decide +kernel, by decide +kernel⟩
/-- a mend that fits the steps -/
structure Fits (ss : List Stp) (m : Mnd) : Prop where
  ix : m.ix < ss.length
  pt : InL (stp ss m.ix).pt m
  tk : m.ix + 1 < ss.length → InL (stp ss (m.ix + 1)).tk m
theorem FormM.fits {ss : List Stp} {m : Mnd} (h : FormM ss m) : Fits ss m := by
  cases m with
  | add i p l => exact ⟨h.1, trivial, fun _ => trivial⟩
  | shift i p t =>
    obtain ⟨h1, h2, h3, h4⟩ := h
    unfold roomS at h2
    refine ⟨h1, ?_, fun hn => ?_⟩
    · show p < _
      split at h2
      · exact Nat.lt_of_lt_of_le h2 (Nat.min_le_left _ _)
      · exact h2
    · have hn : i + 1 < ss.length := hn
      rw [if_pos hn] at h2
      exact Nat.lt_of_lt_of_le h2 (Nat.min_le_right _ _)
def DMendS (ds : List PyData) (d : PyData) : Prop := ∃ (ss : List Stp) (m : Mnd), ds = [encSS ss, encM m] ∧ d = encSS (mendS ss m) ∧ Fits ss m ∧ Short ss
abbrev FMendS (P : Program) (w : World) (K : PySem.W.Frag) (mg : Str → Option Value) (base : Heap) : Prop := Fn P w K mg base CX0 "mended_steps" 2 2 (spP DMendS)
theorem DqAll.set {G : Hp} : ∀ {vs : List V} {ds : List PyData} {v : V} {d : PyData} (j : Nat), DqAll G vs ds → Dq G v d → DqAll G (vs.set j v) (ds.set j d)
  | _, _, _, _, _, .nil, _ => by simp; exact .nil
  | _, _, _, _, 0, .cons h t, k => by simp; exact .cons k t
  | _, _, _, _, j + 1, .cons h t, k => by simp; exact .cons h (DqAll.set j t k)
theorem ixN_of {n j : Nat} (h : j < n) : ixN n (j : Int) = some j := by
  unfold ixN
  rw [if_pos (by omega), if_pos (by omega)]
  simp
theorem mendAt_map (ss : List Stp) (m : Mnd) : (mendAt ss m).map encS = (ss.map encS).set m.ix (encS ⟨(stp ss m.ix).part, (stp ss m.ix).tk, withL (stp ss m.ix).pt m⟩) := by
  rw [mendAt, List.map_set]
theorem mendAt_next (ss : List Stp) (m : Mnd) : stp (mendAt ss m) (m.ix + 1) = stp ss (m.ix + 1) := by
  simp [stp, mendAt, List.getD_eq_getElem?_getD, List.getElem?_set]
theorem Gr.off {G0 H0 G H : Hp} {ps : List Addr} {p : Addr} (g : Gr G0 H0 ps G H) (hp : p ∈ ps) : G p = none := (g.own p hp).1
theorem fn_mendS (D : Df K mg "mended_steps" sMendS) (FW : FWithL P w K mg base) (m1 : mg "len" = none) (m2 : mg "list" = none) : FMendS P w K mg base := by
  refine D.pure scMendS (by rintro ds d ⟨ss, i, rfl, _⟩; rfl) rfl (fun _ _ _ _ _ _ us hl => match us, hl with | [_, _], _ => rfl) fun f cdv A outer s0 H E G vs ds d Q hr hG hv hD k => ?_
  obtain ⟨ss, m, rfl, rfl, hf, hsh⟩ := hD
  obtain ⟨v, u, rfl, dv, du⟩ := hv.two
  have hsz : sizeLine = 16777216 := sizeLine_eq
  have hsh1 : ∀ j, (stp ss j).tk.length ≤ 1000 ∧ (stp ss j).pt.length ≤ 1000 := fun j => by
    rcases Nat.lt_or_ge j ss.length with h | h
    · exact hsh.2 _ (List.mem_of_getElem? (stp_at h))
    · rw [stp, List.getD_eq_getElem?_getD, List.getElem?_eq_none h]; exact ⟨Nat.zero_le _, Nat.zero_le _⟩
  refine ⟨_, pss_cons (ps_par (i := 2) (j := 3) (by rfl) scMendS.nd rfl rfl (by decide) rfl rfl (pa_cons (xe_item (K := K) (pv 1) pe_int) (pa_cons (xe_list (K := K) m2 (pv 0)) pa_nil)) (by rfl))
    (pss_cons (ps_asg (xe_ixL (K := K) (pv 0) (pv 2)) (pg3 (K := K) rfl (pg_name (i := 4) scMendS.nd rfl (.inl rfl)) (pg_name (i := 5) scMendS.nd rfl (.inl rfl)) (pg_name (i := 6) scMendS.nd rfl (.inl rfl))))
    (pss_cons (ps_asg (pe_tup (pa_cons (pv 4) (pa_cons (pv 5) (pa_cons (pe_fn FW hr (by rfl) pass0 (pa_cons (pv 6) (pa_cons (pv 1) pa_nil))) pa_nil)))) (pg_sub (pv 3) (pv 2) set_list))
    (pss_cons (ps_if (pt_cmpR op_lt (pe_op op_add (pv 2) pe_int) (xe_len (K := K) m1 (pv 0)) (nomark _))
      (pss_cons (ps_asg (xe_ixL (K := K) (pv 3) (pe_op op_add (pv 2) pe_int)) (pg3 (K := K) rfl (pg_name (i := 4) scMendS.nd rfl (.inl rfl)) (pg_name (i := 5) scMendS.nd rfl (.inl rfl)) (pg_name (i := 6) scMendS.nd rfl (.inl rfl))))
      (pss_one (ps_asg (pe_tup (pa_cons (pv 4) (pa_cons (pe_fn FW hr (by rfl) pass0 (pa_cons (pv 5) (pa_cons (pv 1) pa_nil))) (pa_cons (pv 6) pa_nil)))) (pg_sub (pv 3) (pe_op op_add (pv 2) pe_int) set_list)))) pss_nil)
    (pss_one (ps_ret (pv 3)))))), ?_⟩
  have hm1 : PR (tOp (rIx K) (tVar 1) (tC (.int 1))) [some v, some u, none, none, none, none, none] G (.int m.ix) := by
    cases m with
    | add i p l => exact PR_op (RR2_item rfl (j := 1) rfl) (PV du) PR_int
    | shift i p t => exact PR_op (RR2_item rfl (j := 1) rfl) (PV du) PR_int
  cases dv with
  | @lst a vs _ ha hall =>
  refine hm1 H _ hG fun vi G1 H1 e1 di => ?_
  cases di
  refine ⟨_, rfl, _, vs, rfl, .inl (SqL.of (e1.hh _ _ (hG _ _ ha))), fun p hp => ⟨_, _, rfl, ?_⟩⟩
  have g0 := ((Gr.start hG).ext e1).new (xs := vs) hp
  have dv1 : Dq G1 (.ref a) (encSS ss) := .lst (e1.gg _ _ ha) (hall.up e1.gg)
  have du1 := du.up e1.gg
  have hl1 := hall.len
  rw [List.length_map] at hl1
  have hix : m.ix < vs.length := by rw [hl1]; exact hf.ix
  refine tSetP_use g0.gh (PR_stepAt (PV dv1) (PV (.int _)) hf.ix) (gp3 (Or.inr rfl)) fun σ' G2 H2 e2 ⟨u4, u5, u6, d4, d5, d6, eσ⟩ => ?_
  subst eσ
  have g2 := g0.ext e2
  have hp2 : H2 p = some (.lst vs) := e2.hh _ _ upd_same
  refine tAsg_use g2.gh (PR_tup (PRA_cons (PV (σ := [some (.ref a), some u, some (.int m.ix), some (.ref p), some u4, some u5, some u6]) (i := 4) d4) (PRA_two (PV (i := 5) d5) (PR_call (D := DWithL) (E := E0) (PRA_two (PV (i := 6) d6) (PV (i := 1) (du1.up e2.gg))) ⟨_, m, rfl, rfl, hf.pt, (hsh1 _).2⟩))) (by show 3 ≤ sizeLine; omega)) fun v3 G3 H3 e3 d3 => ?_
  have g3 := g2.ext e3
  have hp3 : H3 p = some (.lst vs) := e3.hh _ _ hp2
  refine ⟨_, rfl, _, rfl, p, vs, _, m.ix, rfl, rfl, hp3, ixN_of hix, ?_⟩
  have g3' := g3.put (xs := vs.set m.ix v3) (List.mem_cons_self ..)
  have e13 := e1.gg.trans (e2.gg.trans e3.gg)
  have all3 : DqAll G3 (vs.set m.ix v3) ((mendAt ss m).map encS) := by
    rw [mendAt_map]
    exact DqAll.set _ (hall.up e13) d3
  have dv3 : Dq G3 (.ref a) (encSS ss) := dv1.up (e2.gg.trans e3.gg)
  have pj : ∀ {σ : L2.St} {G : Hp}, σ[2]? = some (some (.int m.ix)) → PR (tOp (rI0 fun i j => .int (i + j)) (tVar 2) (tC (.int 1))) σ G (.int ((m.ix + 1 : Nat) : Int)) := fun h => (PR_op RR2_addI (PR_var h (.int _)) PR_int).eq (by congr 1)
  have fin : ∀ {G4 H4 : Hp} {xs : List V} {ts : List Stp}, Gr G H [p] G4 H4 → H4 p = some (.lst xs) → DqAll G4 xs (ts.map encS) → (∀ v G' H', Ext G H G' H' → Dq G' v (encSS ts) → Q v H') → Q (.ref p) H4 := fun {G4 H4 xs ts} g h d k => by
    have gf := g.freeze h
    exact k _ _ _ gf.done (.lst upd_same (d.up (g.tmp (List.mem_cons_self ..) h).2))
  refine tIf_use (b := decide (m.ix + 1 < ss.length)) (TR.eq (TR_test (PR_op RR2_ltI (pj rfl) (lenSS (PV (i := 0) dv3)))) (decide_eq_decide.mpr (by omega))) g3'.gh fun H4 e4 => ?_
  have g4 := g3'.same e4
  have hp4 : H4 p = some (.lst (vs.set m.ix v3)) := e4 _ _ upd_same
  by_cases hn : m.ix + 1 < ss.length
  · rw [decide_eq_true hn]
    refine iteT ?_
    have hx : ((mendAt ss m).map encS)[m.ix + 1]? = some (encS (stp ss (m.ix + 1))) := by
      rw [List.getElem?_map, stp_at (ss := mendAt ss m) (by rw [mendAt, List.length_set]; exact hn), mendAt_next]; rfl
    obtain ⟨z, hz1, hz2⟩ := all3.at' hx
    refine ⟨_, rfl, _, rfl, _, _, rfl, rfl, _, _, _, z, rfl, rfl, SqL.of hp4, ?_, ?_⟩
    · have : ((m.ix : Int) + 1) = ((m.ix + 1 : Nat) : Int) := by omega
      rw [this]
      exact atI_nat hz1
    refine gp3 (Or.inr rfl) z G3 H4 _ hz2 g4.gh fun σ' ⟨w4, w5, w6, c4, c5, c6, eσ⟩ => ?_
    subst eσ
    refine tAsg_use g4.gh (PR_tup (PRA_cons (PV (σ := [some (.ref a), some u, some (.int m.ix), some (.ref p), some w4, some w5, some w6]) (i := 4) c4) (PRA_two (PR_call (D := DWithL) (E := E0) (PRA_two (PV (i := 5) c5) (PV (i := 1) (du.up (e1.gg.trans (e2.gg.trans e3.gg))))) ⟨_, m, rfl, rfl, hf.tk hn, (hsh1 _).1⟩) (PV (i := 6) c6))) (by show 3 ≤ sizeLine; omega)) fun v5 G5 H5 e5 d5' => ?_
    have g5 := g4.ext e5
    have hp5 : H5 p = some (.lst (vs.set m.ix v3)) := e5.hh _ _ hp4
    refine ⟨_, rfl, _, rfl, _, _, rfl, rfl, p, _, _, m.ix + 1, rfl, rfl, hp5, ?_, ?_⟩
    · have : ((m.ix : Int) + 1) = ((m.ix + 1 : Nat) : Int) := by omega
      rw [this]
      exact ixN_of (by rw [List.length_set]; omega)
    refine ⟨_, rfl, fin (ts := mendS ss m) (g5.put (List.mem_cons_self ..)) upd_same ?_ k⟩
    rw [mendS, if_pos hn, List.map_set]
    exact DqAll.set _ (all3.up e5.gg) d5'
  · rw [decide_eq_false hn]
    refine iteF ⟨_, rfl, fin (ts := mendS ss m) g4 hp4 ?_ k⟩
    rw [mendS, if_neg hn]
    exact all3
/-! ### kept_mend -/
theorem scKeptM : FnScope ["mend"] ["mend"] (defScope sKeptM) := ⟨rfl, rfl, rfl, by decide +kernel, rfl, by decide +kernel, by decide +kernel⟩
def DKeptM (ds : List PyData) (d : PyData) : Prop := ∃ (a : PyData) (m : Mnd), ds = [a] ∧ d = encM m ∧ LzM a m
abbrev FKeptM (P : Program) (w : World) (K : PySem.W.Frag) (mg : Str → Option Value) (base : Heap) : Prop := Fn P w K mg base CX0 "kept_mend" 1 1 (spP DKeptM)
theorem PR_rowAt {σ : L2.St} {G : Hp} {te : TE} {a d : PyData} {ds : List PyData} (j : Nat) (h : PR te σ G a) (hr : Row a ds) (hj : ds[j]? = some d) : PR (tOp (rIx K) te (tC (.int j))) σ G d := PR_op (RR2_item hr.seq (by rw [hr.items]; exact hj)) h PR_int
theorem fn_keptM (D : Df K mg "kept_mend" sKeptM) (m1 : mg "tuple" = none) : FKeptM P w K mg base := by
  refine D.pure scKeptM (by rintro ds d ⟨ss, i, rfl, _⟩; rfl) rfl (fun _ _ _ _ _ _ us hl => match us, hl with | [_], _ => rfl) fun f cdv A outer s0 H E G vs ds d Q hr hG hv hD k => ?_
  obtain ⟨a, m, rfl, rfl, hz⟩ := hD
  obtain ⟨v, rfl, da⟩ := hv.one
  have hsz : sizeLine = 16777216 := sizeLine_eq
  refine ⟨_, pss_one (ps_ret (pe_tup (pa_cons (xe_item (K := K) (pv 0) pe_int) (pa_cons (xe_item (K := K) (pv 0) pe_int) (pa_cons (xe_item (K := K) (pv 0) pe_int)
    (pa_cons (pe_ifExp (pt_cmpR op_eq (xe_item (K := K) (pv 0) pe_int) pe_str (nomark _)) (xe_tuple (K := K) m1 (xe_item (K := K) (pv 0) pe_int)) (xe_item (K := K) (pv 0) pe_int)) pa_nil)))))), ?_⟩
  cases m with
  | add i p l =>
    obtain ⟨y, hr4, hl⟩ := hz
    have p0 := PR_rowAt (K := K) 0 (PV (σ := [some v]) (i := 0) da) hr4 rfl
    refine (PR_tup (PRA_cons p0 (PRA_cons (PR_rowAt (K := K) 1 (PV da) hr4 rfl) (PRA_cons (PR_rowAt (K := K) 2 (PV da) hr4 rfl) (PRA_cons (d := encL l) (PR_if (b := true) (TR.eq (TR_test (PR_op RR2_eqS p0 PR_str)) (by decide +kernel)) (fun _ => ?_) fun h => by cases h) PRA_nil)))) (by show 4 ≤ sizeLine; omega)).eq rfl H Q hG k
    exact (PR_tup1 (PR_rowAt (K := K) 3 (PV da) hr4 rfl) (Row.seq hl)).eq (tupD_of hl)
  | shift i p t =>
    have hr4 : Row a [.str "shift", .int i, .int p, .int t] := hz
    have p0 := PR_rowAt (K := K) 0 (PV (σ := [some v]) (i := 0) da) hr4 rfl
    refine (PR_tup (PRA_cons p0 (PRA_cons (PR_rowAt (K := K) 1 (PV da) hr4 rfl) (PRA_cons (PR_rowAt (K := K) 2 (PV da) hr4 rfl) (PRA_cons (d := .int t) (PR_if (b := false) (TR.eq (TR_test (PR_op RR2_eqS p0 PR_str)) (by decide +kernel)) (fun h => by cases h) fun _ => ?_) PRA_nil)))) (by show 4 ≤ sizeLine; omega)).eq rfl H Q hG k
    exact PR_rowAt (K := K) 3 (PV da) hr4 rfl
end
end K50
set_option Elab.async false
set_option linter.all false
set_option maxRecDepth 100000
set_option maxHeartbeats 4000000
/-! K50g: is_mend_form, mended_by -/
namespace K50
open PySem PySem.Spec PyProof.Rows L2 PD StX RZ
abbrev sForm : Stmt := top 33

/-! ### what a mend's form is, of any object -/
def mendWords : List Str := ["add", "shift"]
def mwD : PyData → Bool
  | .str x => mendWords.any fun z => decide (z = x)
  | _ => false
/-- the number, 0 of anything else -/
def valD : PyData → Int
  | .int i => i
  | _ => 0
theorem valD_int (i : Int) : valD (.int i) = i := rfl
def f1D (a : PyData) : Bool := rowD 4 a && mwD (at_ a 0)
def f2D (ss : List Stp) (a : PyData) : Bool := numD (at_ a 1) && (decide (valD (at_ a 1) < ss.length) && numD (at_ a 2))
def mostD (ss : List Stp) (a : PyData) : Nat := roomS ss (valD (at_ a 1)).toNat
def f3D (ss : List Stp) (a : PyData) : Bool :=
  if isStr "add" (at_ a 0) = true then decide (valD (at_ a 2) ≤ mostD ss a) && plD (at_ a 3)
  else numD (at_ a 3) && (decide (valD (at_ a 2) < mostD ss a) && (decide (valD (at_ a 3) < mostD ss a) && decide (valD (at_ a 2) ≠ valD (at_ a 3))))
def formD (ss : List Stp) (a : PyData) : Bool := f1D a && (f2D ss a && f3D ss a)
theorem num_of {a : PyData} (h : numD a = true) : ∃ n : Nat, a = .int n := by
  cases a with
  | int i => exact ⟨i.toNat, by have := of_decide_eq_true h; congr 1; omega⟩
  | _ => cases h
theorem list4 {α : Type} {l : List α} (h : l.length = 4) : ∃ a b c d, l = [a, b, c, d] := by
  match l, h with
  | [a, b, c, d], _ => exact ⟨a, b, c, d, rfl⟩
theorem row4 {a : PyData} (h : rowD 4 a = true) : Row a [at_ a 0, at_ a 1, at_ a 2, at_ a 3] := by
  unfold rowD at h
  rw [Bool.and_eq_true] at h
  obtain ⟨x, y, z, t, e⟩ := list4 (of_decide_eq_true h.2)
  cases a with
  | list ds => have e : ds = [x, y, z, t] := e; subst e; exact .inl rfl
  | tuple ds => have e : ds = [x, y, z, t] := e; subst e; exact .inr rfl
  | _ => cases h.1
theorem list2 {α : Type} {l : List α} (h : l.length = 2) : ∃ a b, l = [a, b] := by
  match l, h with
  | [a, b], _ => exact ⟨a, b, rfl⟩
theorem row2 {a : PyData} (h : rowD 2 a = true) : Row a [at_ a 0, at_ a 1] := by
  unfold rowD at h
  rw [Bool.and_eq_true] at h
  obtain ⟨x, y, e⟩ := list2 (of_decide_eq_true h.2)
  cases a with
  | list ds => have e : ds = [x, y] := e; subst e; exact .inl rfl
  | tuple ds => have e : ds = [x, y] := e; subst e; exact .inr rfl
  | _ => cases h.1
theorem btw_of {lo hi : Int} {a : PyData} (h : btw lo hi a = true) (h0 : 0 ≤ lo) : ∃ n : Nat, a = .int n ∧ (n : Int) ≤ hi := by
  cases a with
  | int i =>
    simp only [btw, Bool.and_eq_true, decide_eq_true_eq] at h
    exact ⟨i.toNat, by congr 1; omega, by omega⟩
  | _ => cases h
theorem isStr_of {s : Str} {a : PyData} (h : isStr s a = true) : a = .str s := by
  cases a with
  | str x => rw [of_decide_eq_true h]
  | _ => cases h
theorem kind_of {a : PyData} (h : kindD a = true) : ∃ k : Kd, k ≠ .wo ∧ a = .str k.str := by
  cases a with
  | str x =>
    obtain ⟨z, hz, e⟩ := List.any_eq_true.mp h
    have e := of_decide_eq_true e
    subst e
    simp only [kinds, List.mem_cons, List.not_mem_nil, or_false] at hz
    rcases hz with rfl | rfl | rfl
    · exact ⟨.ci, by decide, rfl⟩
    · exact ⟨.se, by decide, rfl⟩
    · exact ⟨.la, by decide, rfl⟩
  | _ => cases h
/-- what is a layer of parts -/
theorem plD_lay {a : PyData} (h : plD a = true) : ∃ l, LzL a l ∧ okLay l := by
  unfold plD at h
  rw [Bool.or_eq_true] at h
  rcases h with h | h
  · unfold wordD at h
    simp only [Bool.and_eq_true] at h
    obtain ⟨h1, h2, h3⟩ := h
    obtain ⟨n, e1, e2⟩ := btw_of h3 (by decide)
    have r := row2 h1
    rw [isStr_of h2, e1] at r
    exact ⟨(.wo, n), r, .inl ⟨rfl, by show n ≤ 9; omega⟩⟩
  · simp only [Bool.and_eq_true] at h
    obtain ⟨h1, h2, h3⟩ := h
    obtain ⟨n, e1, e2⟩ := btw_of h3 (by decide)
    obtain ⟨k, hk, e3⟩ := kind_of h2
    have r := row2 h1
    rw [e3, e1] at r
    exact ⟨(k, n), r, .inr ⟨hk, by show n ≤ 1; omega⟩⟩
theorem mw_of {a : PyData} (h : mwD a = true) : a = .str "add" ∨ a = .str "shift" := by
  cases a with
  | str x =>
    obtain ⟨z, hz, e⟩ := List.any_eq_true.mp h
    have e := of_decide_eq_true e
    subst e
    simp only [mendWords, List.mem_cons, List.not_mem_nil, or_false] at hz
    exact hz.imp (congrArg PyData.str) (congrArg PyData.str)
  | _ => cases h
theorem formD_mend {ss : List Stp} {a : PyData} (h : formD ss a = true) : ∃ m, FormM ss m ∧ LzM a m := by
  unfold formD f1D f2D at h
  simp only [Bool.and_eq_true, decide_eq_true_eq] at h
  obtain ⟨⟨h1, h2⟩, ⟨h3, h4, h5⟩, h6⟩ := h
  have r := row4 h1
  obtain ⟨i, ei⟩ := num_of h3
  obtain ⟨p, ep⟩ := num_of h5
  unfold f3D mostD at h6
  rw [ei] at h4
  have h4 : (i : Int) < ss.length := h4
  rw [ei, ep] at h6 r
  simp only [valD_int, Int.toNat_natCast] at h6
  rcases mw_of h2 with e0 | e0
  · rw [e0] at h6 r
    rw [if_pos (by decide +kernel)] at h6
    rw [Bool.and_eq_true] at h6
    have h60 : (p : Int) ≤ roomS ss i := of_decide_eq_true h6.1
    obtain ⟨l, hl, hk⟩ := plD_lay h6.2
    exact ⟨.add i p l, ⟨by omega, by omega, hk⟩, _, r, hl⟩
  · rw [e0] at h6 r
    rw [if_neg (by decide +kernel)] at h6
    rw [Bool.and_eq_true, Bool.and_eq_true, Bool.and_eq_true] at h6
    obtain ⟨g1, g2, g3, g4⟩ := h6
    obtain ⟨t, et⟩ := num_of g1
    rw [et] at g3 g4 r
    have g2 : (p : Int) < roomS ss i := of_decide_eq_true g2
    have g3 : (t : Int) < roomS ss i := of_decide_eq_true g3
    have g4 : (p : Int) ≠ t := of_decide_eq_true g4
    exact ⟨.shift i p t, ⟨by omega, by omega, by omega, by omega⟩, r⟩
theorem Row.at_eq {a : PyData} {ds : List PyData} (h : Row a ds) {j : Nat} {d : PyData} (hj : ds[j]? = some d) : at_ a j = d := by rw [h.at, hj]; rfl
theorem formD_of {ss : List Stp} {a : PyData} {m : Mnd} (h : FormM ss m) (hz : LzM a m) : formD ss a = true := by
  cases m with
  | add i p l =>
    obtain ⟨y, hr, hl⟩ := hz
    obtain ⟨h1, h2, h3⟩ := h
    unfold formD f1D f2D f3D mostD
    rw [hr.row (n := 4) rfl, hr.at_eq (j := 0) rfl, hr.at_eq (j := 1) rfl, hr.at_eq (j := 2) rfl, hr.at_eq (j := 3) rfl, if_pos (by decide +kernel), plD_of hl h3]
    have : mwD (.str "add") = true := by decide +kernel
    simp [this, numD, valD_int, h1, h2]
  | shift i p t =>
    have hr : Row a [.str "shift", .int i, .int p, .int t] := hz
    obtain ⟨h1, h2, h3, h4⟩ := h
    unfold formD f1D f2D f3D mostD
    rw [hr.row (n := 4) rfl, hr.at_eq (j := 0) rfl, hr.at_eq (j := 1) rfl, hr.at_eq (j := 2) rfl, hr.at_eq (j := 3) rfl, if_neg (by decide +kernel)]
    have : mwD (.str "shift") = true := by decide +kernel
    simp [this, numD, valD_int, h1, h2, h3]
    exact decide_eq_true (by omega)
theorem LzM.inj {a : PyData} {m m' : Mnd} (h : LzM a m) (h' : LzM a m') : encM m = encM m' := by
  have key : ∀ {ds es : List PyData}, Row a ds → Row a es → ds = es := fun h1 h2 => h1.items.symm.trans h2.items
  cases m with
  | add i p l =>
    obtain ⟨y, hr, hl⟩ := h
    cases m' with
    | add i' p' l' =>
      obtain ⟨y', hr', hl'⟩ := h'
      have e := key hr hr'
      simp only [List.cons.injEq, and_true, true_and] at e
      obtain ⟨e1, e2, e3⟩ := e
      subst e3
      have e4 : encL l = encL l' := (tupD_of hl).symm.trans (tupD_of hl')
      rw [encM, encM, e1, e2, e4]
    | shift i' p' t' =>
      have e := key hr h'
      simp only [List.cons.injEq, PyData.str.injEq] at e
      exact absurd e.1 (by decide +kernel)
  | shift i p t =>
    cases m' with
    | add i' p' l' =>
      obtain ⟨y', hr', hl'⟩ := h'
      have e := key h hr'
      simp only [List.cons.injEq, PyData.str.injEq] at e
      exact absurd e.1 (by decide +kernel)
    | shift i' p' t' =>
      have e := key h h'
      rw [encM, encM, e]
section
variable {P : Program} {w : World} {K : PySem.W.Frag} {mg : Str → Option Value} {base : Heap}
/-! ### is_mend_form -/
abbrev nForm : List Str := ["steps", "thing", "most"]
theorem scForm : FnScope nForm ["steps", "thing"] (defScope sForm) := ⟨rfl, rfl, rfl, by decide +kernel, rfl, by decide +kernel, by decide +kernel⟩
def DForm (ds : List PyData) (d : PyData) : Prop := ∃ (ss : List Stp) (a : PyData), ds = [encSS ss, a] ∧ d = .bool (formD ss a) ∧ Obj 10 a
abbrev FForm (P : Program) (w : World) (K : PySem.W.Frag) (mg : Str → Option Value) (base : Heap) : Prop := Fn P w K mg base CX0 "is_mend_form" 5 2 (spP DForm)
theorem PR_notinT {σ : L2.St} {G : Hp} {te : TE} {s : Str} {a b : Str} (h : PR te σ G (.str s)) : PR (tOp (rIn K true) te (tTup (tCons (tC (.str a)) (tCons (tC (.str b)) tNil)))) σ G (.bool (!([a, b].any fun z => decide (z = s)))) :=
  PR_op (RR2_notinT (ss := [a, b])) h (PR_tup (PRA_two PR_str PR_str) (by show 2 ≤ sizeLine; rw [sizeLine_eq]; omega))
theorem fn_form (D : Df K mg "is_mend_form" sForm) (FR : FIsRow P w K mg base) (FN : FIsNum P w K mg base) (FP : FIsPL P w K mg base) (FO : FRoom P w K mg base) (m1 : mg "isinstance" = none) (m2 : mg "str" = none) (m3 : mg "len" = none) : FForm P w K mg base := by
  refine D.pure scForm (by rintro ds d ⟨ss, i, rfl, _⟩; rfl) rfl (fun _ _ _ _ _ _ us hl => match us, hl with | [_, _], _ => rfl) fun f cdv A outer s0 H E G vs ds d Q hr hG hv hD k => ?_
  obtain ⟨ss, a, rfl, rfl, ho⟩ := hD
  obtain ⟨v, u, rfl, dv, du⟩ := hv.two
  refine ⟨_, pss_cons (ps_if (PW.pt (pw_or (pt_not (pt_val (pe_fn FR (hr.mono (by decide)) (by rfl) pass0 (pa_cons (pv 1) (pa_cons pe_int pa_nil))))) (pw_or (pt_not (pt_val (xe_isi (K := K) (U := "str") m1 m2 (by decide +kernel) (xe_item (K := K) (pv 1) pe_int))))
      (pw_or1 (xt_notinS (K := K) (xe_item (K := K) (pv 1) pe_int) (pe_tup (pa_cons pe_str (pa_cons pe_str pa_nil)))))))) (pss_one (ps_ret pe_bl)) pss_nil)
    (pss_cons (ps_if (PW.pt (pw_or (pt_not (pt_val (pe_fn FN (hr.mono (by decide)) (by rfl) pass0 (pa_cons (xe_item (K := K) (pv 1) pe_int) pa_nil)))) (pw_or (pt_cmpR op_ge (xe_item (K := K) (pv 1) pe_int) (xe_len (K := K) m3 (pv 0)) (nomark _))
      (pw_or1 (pt_not (pt_val (pe_fn FN (hr.mono (by decide)) (by rfl) pass0 (pa_cons (xe_item (K := K) (pv 1) pe_int) pa_nil)))))))) (pss_one (ps_ret pe_bl)) pss_nil)
    (pss_cons (ps_set (i := 2) scForm.nd rfl (.inl rfl) (pe_fn FO (hr.mono (by decide)) (by rfl) pass0 (pa_cons (pv 0) (pa_cons (xe_item (K := K) (pv 1) pe_int) pa_nil))))
    (pss_cons (ps_if (pt_cmpR op_eq (xe_item (K := K) (pv 1) pe_int) pe_str (nomark _)) (pss_one (ps_ret (pe_and (pe_cmpR op_le (xe_item (K := K) (pv 1) pe_int) (pv 2) (nomark _)) (pe_one (pe_fn FP hr (by rfl) pass0 (pa_cons (xe_item (K := K) (pv 1) pe_int) pa_nil)))))) pss_nil)
    (pss_one (ps_ret (pe_and (pe_fn FN (hr.mono (by decide)) (by rfl) pass0 (pa_cons (xe_item (K := K) (pv 1) pe_int) pa_nil)) (pe_and (pe_cmpR op_lt (xe_item (K := K) (pv 1) pe_int) (pv 2) (nomark _)) (pe_and (pe_cmpR op_lt (xe_item (K := K) (pv 1) pe_int) (pv 2) (nomark _))
      (pe_one (pe_cmpR op_ne (xe_item (K := K) (pv 1) pe_int) (xe_item (K := K) (pv 1) pe_int) (nomark _))))))))))), ?_⟩
  refine tIf_use (b := !f1D a) (TR.eq (b := !rowD 4 a || (!isS (at_ a 0) || !mwD (at_ a 0))) (TR_or (TR_not (TR_tB (PR_call (PRA_two (PV du) (PR_int (i := 4))) ⟨a, 4, rfl, rfl, ho.plain⟩))) fun h1 => ?_) ?_) hG fun H1 e1 => ?_
  · have h1 : rowD 4 a = true := by simpa using h1
    have hi := PR_it (K := K) 0 (PV (σ := [some v, some u, none]) (i := 1) du) h1
    refine TR_or (TR_not (TR_tB (PR_isi hi (kitS _) (shPlain (ho.at h1 (by decide)))))) fun h2 => ?_
    have h2 : isS (at_ a 0) = true := by simpa using h2
    revert hi h2
    generalize at_ a 0 = e
    intro hi h2
    cases e with
    | str x => exact TR_test (PR_notinT hi)
    | _ => cases h2
  · unfold f1D
    cases rowD 4 a with
    | false => rfl
    | true => cases at_ a 0 <;> simp [isS, mwD]
  have kf : ∀ {H' : Hp}, Same H H' → formD ss a = false → ∀ v G' H2, Ext G H' G' H2 → Dq G' v (.bool false) → Q v H2 := fun {H'} e hf v G' H2 x dv => k v G' H2 ((Ext.more hG e).trans x) (by rw [hf]; exact dv)
  cases h1 : f1D a with
  | false => exact iteT (tRet_bl (hG.trans e1) (kf e1 (by unfold formD; rw [h1]; rfl)))
  | true =>
    refine iteF (nxt ?_)
    have h4 : rowD 4 a = true := by unfold f1D at h1; rw [Bool.and_eq_true] at h1; exact h1.1
    have hw : mwD (at_ a 0) = true := by unfold f1D at h1; rw [Bool.and_eq_true] at h1; exact h1.2
    have i1 : ∀ {σ : L2.St} {G1 : Hp} (j : Nat), Same G G1 → σ[1]? = some (some u) → j < 4 → PR (tOp (rIx K) (tVar 1) (tC (.int j))) σ G1 (at_ a j) := fun j g h hj => PR_it (K := K) j (PR_var h (du.up g)) h4 hj
    have p1 := shPlain (ho.at h4 (j := 1) (by decide))
    have p2 := shPlain (ho.at h4 (j := 2) (by decide))
    have p3 := ho.at h4 (j := 3) (by decide)
    refine tIf_use (b := !f2D ss a) (TR.eq (b := !numD (at_ a 1) || (decide ((ss.length : Int) ≤ valD (at_ a 1)) || !numD (at_ a 2))) (TR_or (TR_not (TR_tB (PR_call (PRA_one (i1 1 (Same.refl _) rfl (by decide))) ⟨_, rfl, rfl, p1⟩))) fun h => TR_or ?_ fun _ => TR_not (TR_tB (PR_call (PRA_one (i1 2 (Same.refl _) rfl (by decide))) ⟨_, rfl, rfl, p2⟩))) ?_) (hG.trans e1) fun H2 e2 => ?_
    · have hi := i1 (σ := [some v, some u, none]) 1 (Same.refl G) rfl (by decide)
      obtain ⟨n, en⟩ := num_of (a := at_ a 1) (by simpa using h)
      rw [en] at hi ⊢
      exact TR_test (PR_op RR2_geI hi (lenSS (PV dv)))
    · unfold f2D
      have e : decide ((ss.length : Int) ≤ valD (at_ a 1)) = !decide (valD (at_ a 1) < ss.length) := by
        rw [← decide_not]
        exact decide_eq_decide.mpr (by omega)
      rw [e]
      cases numD (at_ a 1) <;> cases numD (at_ a 2) <;> simp
    have e12 := e1.trans e2
    cases h2 : f2D ss a with
    | false => exact iteT (tRet_bl (hG.trans e12) (kf e12 (by unfold formD; rw [h1, h2]; rfl)))
    | true =>
      refine iteF (nxt ?_)
      unfold f2D at h2
      simp only [Bool.and_eq_true, decide_eq_true_eq] at h2
      obtain ⟨g1, g2, g3⟩ := h2
      obtain ⟨n, en⟩ := num_of g1
      obtain ⟨p, ep⟩ := num_of g3
      have hform : formD ss a = f3D ss a := by
        unfold formD f2D
        rw [h1, g1, g3, decide_eq_true g2]; rfl
      rw [hform] at k
      unfold f3D mostD at k
      rw [en] at g2
      have g2 : (n : Int) < ss.length := g2
      have hn := i1 (σ := [some v, some u, none]) 1 (Same.refl G) rfl (by decide)
      rw [en] at hn
      refine tSet_use (hG.trans e12) (PR_call (PRA_two (PV dv) hn) ⟨ss, n, rfl, rfl, by omega⟩) fun vm G3 H3 e3 dm => ?_
      have e13 := (Ext.more hG e12).trans e3
      have q1 : ∀ {σ : L2.St} (j : Nat), σ[1]? = some (some u) → j < 4 → PR (tOp (rIx K) (tVar 1) (tC (.int j))) σ G3 (at_ a j) := fun j h hj => i1 j e3.gg h hj
      have q2 : PR (tOp (rIx K) (tVar 1) (tC (.int (2 : Nat)))) [some v, some u, some vm] G3 (.int p) := (q1 2 rfl (by decide)).eq ep
      have hv : (valD (at_ a 1)).toNat = n := by rw [en]; simp [valD]
      have hv2 : valD (at_ a 2) = p := by rw [ep]; rfl
      rw [hv, hv2] at k
      have T0 : TR (tTest (tOp rEq (tOp (rIx K) (tVar 1) (tC (.int (0 : Nat)))) (tC (.str "add")))) [some v, some u, some vm] G3 (isStr "add" (at_ a 0)) := by
        have q0 := q1 (σ := [some v, some u, some vm]) 0 rfl (by decide)
        rcases mw_of hw with e | e
        · rw [e] at q0 ⊢
          exact TR_test (PR_op RR2_eqS q0 PR_str)
        · rw [e] at q0 ⊢
          exact TR_test (PR_op RR2_eqS q0 PR_str)
      refine tIf_use T0 e3.gh fun H4 e4 => ?_
      cases hs : isStr "add" (at_ a 0) with
      | true =>
        rw [hs, if_pos rfl] at k
        refine iteT (tRet_use (d := .bool (decide ((p : Int) ≤ roomS ss n) && plD (at_ a 3))) (e3.gh.trans e4) (PR_andV (PR_op RR2_leI q2 (PV dm)) fun _ => PR_call (PRA_one (q1 3 rfl (by decide))) ⟨_, rfl, rfl, .inl p3⟩) fun v G' H' x dv => k v G' H' ((e13.trans (Ext.more e3.gh e4)).trans x) dv)
      | false =>
        rw [hs, if_neg (by decide)] at k
        refine iteF (nxt ?_)
        dsimp only
        refine tRet_use (d := .bool (numD (at_ a 3) && (decide ((p : Int) < roomS ss n) && (decide (valD (at_ a 3) < roomS ss n) && decide ((p : Int) ≠ valD (at_ a 3)))))) (e3.gh.trans e4) (PR_andV (PR_call (PRA_one (q1 3 rfl (by decide))) ⟨_, rfl, rfl, shPlain p3⟩) fun h3 => ?_) fun v G' H' x dv => k v G' H' ((e13.trans (Ext.more e3.gh e4)).trans x) dv
        obtain ⟨t, et⟩ := num_of h3
        have q3 := q1 (σ := [some v, some u, some vm]) 3 rfl (by decide)
        rw [et] at q3 ⊢
        exact PR_andV (PR_op RR2_ltI q2 (PV dm)) fun _ => PR_andV (PR_op RR2_ltI q3 (PV dm)) fun _ => PR_op RR2_neI q2 q3
end
end K50
set_option Elab.async false
set_option linter.all false
set_option maxRecDepth 100000
set_option maxHeartbeats 4000000
/-! K50h: mended_by; the errors; check_protocol, goes_on, mended -/
namespace K50
open PySem PySem.Spec PyProof.Rows L2 PD StX RZ
abbrev sMendBy : Stmt := top 37
abbrev sCheck : Stmt := top 26
abbrev sGoes : Stmt := top 31
abbrev sMended : Stmt := top 38
/-! ### what comes of a mend is of right form -/
def Few (k : Nat) (ss : List Stp) : Prop := ∀ s ∈ ss, s.tk.length ≤ k ∧ s.pt.length ≤ k
theorem withL_mem {ls : List Lay} {m : Mnd} {x : Lay} (h : x ∈ withL ls m) (hin : InL ls m) : x ∈ ls ∨ ∃ i p, m = .add i p x := by
  cases m with
  | add i p l =>
    simp only [withL, List.mem_append, List.mem_cons] at h
    rcases h with h | rfl | h
    · exact .inl (List.mem_of_mem_take h)
    · exact .inr ⟨i, p, rfl⟩
    · exact .inl (List.mem_of_mem_drop h)
  | shift i p t =>
    have hp : p < ls.length := hin
    have hr : ∀ y, y ∈ ls.take p ++ ls.drop (p + 1) → y ∈ ls := fun y hy => (List.mem_append.mp hy).elim List.mem_of_mem_take List.mem_of_mem_drop
    simp only [withL, List.mem_append, List.mem_cons] at h
    rcases h with h | rfl | h
    · exact .inl (hr _ (List.mem_of_mem_take h))
    · refine .inl ?_
      rw [List.getD_eq_getElem?_getD, List.getElem?_eq_getElem hp]
      exact List.getElem_mem hp
    · exact .inl (hr _ (List.mem_of_mem_drop h))
theorem withL_le (ls : List Lay) (m : Mnd) (hin : InL ls m) : (withL ls m).length ≤ ls.length + 1 := by
  cases m with
  | add i p l => simp [withL]; omega
  | shift i p t =>
    have hp : p < ls.length := hin
    simp [withL]; omega
theorem withL_ok {ls : List Lay} {m : Mnd} {ss : List Stp} (h : okLays ls) (hl : ls.length ≤ 999) (hin : InL ls m) (hf : FormM ss m) : okLays (withL ls m) := by
  refine ⟨Nat.le_trans (withL_le ls m hin) (by omega), fun x hx => ?_⟩
  rcases withL_mem hx hin with h1 | ⟨i, p, rfl⟩
  · exact h.2 x h1
  · exact hf.2.2
theorem stp_mem {ss : List Stp} {i : Nat} (h : i < ss.length) : stp ss i ∈ ss := List.mem_of_getElem? (stp_at h)
theorem mendS_len (ss : List Stp) (m : Mnd) : (mendS ss m).length = ss.length := by
  unfold mendS mendAt
  split <;> simp
theorem mendS_mem {ss : List Stp} {m : Mnd} {s : Stp} (h : s ∈ mendS ss m) : s ∈ ss ∨ s = ⟨(stp ss m.ix).part, (stp ss m.ix).tk, withL (stp ss m.ix).pt m⟩ ∨ (m.ix + 1 < ss.length ∧ s = ⟨(stp ss (m.ix + 1)).part, withL (stp ss (m.ix + 1)).tk m, (stp ss (m.ix + 1)).pt⟩) := by
  unfold mendS mendAt at h
  split at h
  · rename_i hn
    rcases List.mem_or_eq_of_mem_set h with h | rfl
    · rcases List.mem_or_eq_of_mem_set h with h | rfl
      · exact .inl h
      · exact .inr (.inl rfl)
    · exact .inr (.inr ⟨hn, rfl⟩)
  · rcases List.mem_or_eq_of_mem_set h with h | rfl
    · exact .inl h
    · exact .inr (.inl rfl)
theorem mendS_form {ss : List Stp} {m : Mnd} (hf : FormM ss m) (hr : ∀ s ∈ ss, FormS s) (hw : Few 999 ss) : ∀ s ∈ mendS ss m, FormS s := fun s hs => by
  have ft := hf.fits
  rcases mendS_mem hs with h | rfl | ⟨hn, rfl⟩
  · exact hr s h
  · obtain ⟨a, b, c⟩ := hr _ (stp_mem ft.ix)
    exact ⟨a, b, withL_ok c (hw _ (stp_mem ft.ix)).2 ft.pt hf⟩
  · obtain ⟨a, b, c⟩ := hr _ (stp_mem hn)
    exact ⟨a, withL_ok b (hw _ (stp_mem hn)).1 (ft.tk hn) hf, c⟩
theorem mendS_few {ss : List Stp} {m : Mnd} {k : Nat} (hf : FormM ss m) (hw : Few k ss) : Few (k + 1) (mendS ss m) := fun s hs => by
  have ft := hf.fits
  rcases mendS_mem hs with h | rfl | ⟨hn, rfl⟩
  · have := hw s h; omega
  · have := hw _ (stp_mem ft.ix)
    have := withL_le _ _ ft.pt
    constructor <;> (dsimp only; omega)
  · have := hw _ (stp_mem hn)
    have := withL_le _ _ (ft.tk hn)
    constructor <;> (dsimp only; omega)
theorem mendS_ne {ss : List Stp} {m : Mnd} (h : ss ≠ []) : mendS ss m ≠ [] := fun z => h (List.length_eq_zero_iff.mp (by rw [← mendS_len ss m, z]; rfl))
section
variable {P : Program} {w : World} {K : PySem.W.Frag} {mg : Str → Option Value} {base : Heap}
/-! ### mended_by -/
abbrev nMendBy : List Str := ["protocol", "thing", "steps"]
theorem scMendBy : FnScope nMendBy ["protocol", "thing"] (defScope sMendBy) := ⟨rfl, rfl, rfl, by decide +kernel, rfl, by decide +kernel, by decide +kernel⟩
def byD (C : Addr) (n : Str) (ss : List Stp) (m : Mnd) : PyData := if wrongFrom 0 (mendS ss m) = none then protoD C n (mendS ss m) else .none
/-- what comes of any object as a mend -/
def ByOf (C : Addr) (n : Str) (ss : List Stp) (a d : PyData) : Prop := (formD ss a = false ∧ d = .none) ∨ ∃ m, FormM ss m ∧ LzM a m ∧ d = byD C n ss m
def DMendBy (C : Addr) (ds : List PyData) (d : PyData) : Prop := ∃ n ss a, ds = [protoD C n ss, a] ∧ ByOf C n ss a d ∧ Right ss ∧ AgentN n ∧ Few 999 ss ∧ Obj 10 a
abbrev FMendBy (P : Program) (w : World) (K : PySem.W.Frag) (mg : Str → Option Value) (base : Heap) (C : Addr) : Prop := Fn P w K mg base CX0 "mended_by" 10 2 (spP (DMendBy C))
/-- the making of Proto -/
structure MkP (P : Program) (w : World) (K : PySem.W.Frag) (mg : Str → Option Value) (base : Heap) (C : Addr) : Prop where
  ex : ∃ fi fd, Mk K C fi ∧ Binds K fd ["self", "name", "steps"] [] ∧ FnOk P w K mg base CX0 8 fi fd ["self", "name", "steps"] (spInit C)
theorem fn_mendBy {C : Addr} (D : Df K mg "mended_by" sMendBy) (T : TProto K mg C) (M : MkP P w K mg base C) (FF : FForm P w K mg base) (FK : FKeptM P w K mg base) (FM : FMendS P w K mg base) (FW : FWrong P w K mg base) : FMendBy P w K mg base C := by
  obtain ⟨fi, fdi, hM, hB, hI⟩ := M.ex
  refine D.pure scMendBy (by rintro ds d ⟨n, ss, a, rfl, _⟩; rfl) rfl (fun _ _ _ _ _ _ us hl => match us, hl with | [_, _], _ => rfl) fun f cdv A outer s0 H E G vs ds d Q hr hG hv hD k => ?_
  obtain ⟨n, ss, a, rfl, hby, hR, hA, hW, ho⟩ := hD
  obtain ⟨v, u, rfl, dv, du⟩ := hv.two
  refine ⟨_, pss_cons (ps_if (pt_not (pt_val (pe_fn FF (hr.mono (by decide)) (by rfl) pass0 (pa_cons (xe_fld (K := K) (pv 0)) (pa_cons (pv 1) pa_nil))))) (pss_one (ps_ret pe_non)) pss_nil)
    (pss_cons (ps_set (i := 2) scMendBy.nd rfl (.inl rfl) (pe_fn FM (hr.mono (by decide)) (by rfl) pass0 (pa_cons (xe_fld (K := K) (pv 0)) (pa_cons (pe_fn FK (hr.mono (by decide)) (by rfl) pass0 (pa_cons (pv 1) pa_nil)) pa_nil))))
    (pss_one (ps_ret (pe_ifExp (pt_cmpR op_isN (pe_fn FW (hr.mono (by decide)) (by rfl) pass0 (pa_cons (pv 2) pa_nil)) pe_non (nomark _)) (pe_make hM hI hr (by rfl) T.gl hB .nil pass0 (pa_cons (xe_fld (K := K) (pv 0)) (pa_cons (pv 2) pa_nil))) pe_non)))), ?_⟩
  have s0' := PR_stepsF (K := K) T (PV (σ := [some v, some u, none]) (i := 0) dv)
  refine tIf_use (TR_not (TR_tB (PR_call (PRA_two s0' (PV du)) ⟨ss, a, rfl, rfl, ho⟩))) hG fun H1 e1 => ?_
  rcases hby with ⟨hf, rfl⟩ | ⟨m, hf, hz, rfl⟩
  · rw [hf]
    exact iteT (tRet_use (hG.trans e1) PR_non fun v' G' H' x dv' => k v' G' H' ((Ext.more hG e1).trans x) dv')
  · rw [formD_of hf hz]
    refine iteF (nxt ?_)
    refine tSet_use (hG.trans e1) (PR_call (PRA_two s0' (PR_call (PRA_one (PV du)) ⟨a, m, rfl, rfl, hz⟩)) ⟨ss, m, rfl, rfl, hf.fits, hR.short⟩) fun v2 G2 H2 e2 d2 => ?_
    have e12 := (Ext.more hG e1).trans e2
    have hform := mendS_form hf hR.form hW
    have nm := PR_name (K := K) T (PV (σ := [some v, some u, some v2]) (i := 0) (dv.up e2.gg))
    refine tRet_use e2.gh (PR_if (TR.eq (TR_test (PR_op RR2_isN (PR_call (PRA_one (PV d2)) ⟨_, mendS ss m, rfl, rfl, lzSS_enc _, mendS_ne hR.ne, by rw [mendS_len]; exact hR.len, hform⟩) PR_non)) (c := decide (wrongFrom 0 (mendS ss m) = none)) ?_) (fun h => ?_) fun h => ?_) fun v' G' H' x dv' => k v' G' H' (e12.trans x) dv'
    · cases wrongFrom 0 (mendS ss m) <;> simp [optD, PD.isNon]
    · have h := of_decide_eq_true h
      rw [byD, if_pos h]
      exact PR_make (PRA_two nm (PV d2)) (lzSS_enc _) ⟨mendS_ne hR.ne, by rw [mendS_len]; exact hR.len, hform, h⟩ hA
    · have h := of_decide_eq_false h
      rw [byD, if_neg h]
      exact PR_non
/-! ### the errors -/
abbrev iBadP : Stmt := inClass (top 8) 0
abbrev iBadL : Stmt := inClass (top 11) 0
abbrev iBadM : Stmt := inClass (top 28) 0
theorem ini_P {C fI : Addr} {fd : FuncData} (F : Fun K "__init__" "BadProtocol.__init__" iBadP fI fd) (o : OexC K C) (no : PySem.W.findIn K (.ref C) "protocol" = some none) : FnOk P w K mg base CX0 1 fI fd ["self", "protocol"] (spI C "protocol") :=
  xInit F ⟨rfl, rfl, rfl, by decide +kernel, rfl, by decide +kernel, by decide +kernel⟩ o no fun X hN hS hK => by
    subst hK
    exact pss_one (ps_ost (pe_var (i := 0) (x := "self") (by rw [hN]; rfl) (by rw [hS]; exact .inl rfl)) (pe_var (i := 1) (x := "protocol") (by rw [hN]; rfl) (by rw [hS]; exact .inl rfl)))
theorem ini_L {C fI : Addr} {fd : FuncData} (F : Fun K "__init__" "BadLayers.__init__" iBadL fI fd) (o : OexC K C) (no : PySem.W.findIn K (.ref C) "layers" = some none) : FnOk P w K mg base CX0 1 fI fd ["self", "layers"] (spI C "layers") :=
  xInit F ⟨rfl, rfl, rfl, by decide +kernel, rfl, by decide +kernel, by decide +kernel⟩ o no fun X hN hS hK => by
    subst hK
    exact pss_one (ps_ost (pe_var (i := 0) (x := "self") (by rw [hN]; rfl) (by rw [hS]; exact .inl rfl)) (pe_var (i := 1) (x := "layers") (by rw [hN]; rfl) (by rw [hS]; exact .inl rfl)))
theorem ini_M {C fI : Addr} {fd : FuncData} (F : Fun K "__init__" "BadMend.__init__" iBadM fI fd) (o : OexC K C) (no : PySem.W.findIn K (.ref C) "mend" = some none) : FnOk P w K mg base CX0 1 fI fd ["self", "mend"] (spI C "mend") :=
  xInit F ⟨rfl, rfl, rfl, by decide +kernel, rfl, by decide +kernel, by decide +kernel⟩ o no fun X hN hS hK => by
    subst hK
    exact pss_one (ps_ost (pe_var (i := 0) (x := "self") (by rw [hN]; rfl) (by rw [hS]; exact .inl rfl)) (pe_var (i := 1) (x := "mend") (by rw [hN]; rfl) (by rw [hS]; exact .inl rfl)))
/-! ### check_protocol -/
theorem scCheck : FnScope ["protocol"] ["protocol"] (defScope sCheck) := ⟨rfl, rfl, rfl, by decide +kernel, rfl, by decide +kernel, by decide +kernel⟩
/-- a protocol, or what is none -/
def IsProt (C : Addr) (d : PyData) : Prop := ∃ n ss, d = protoD C n ss
def spCheck (C CP : Addr) : Sp := fun vs H Q E => ∃ G v d, vs = [v] ∧ Same G H ∧ Dq G v d ∧ ((plain d = true ∧ XOut CP "protocol" v H E) ∨ (IsProt C d ∧ ∀ H', Same H H' → Q .non H'))
abbrev FCheck (P : Program) (w : World) (K : PySem.W.Frag) (mg : Str → Option Value) (base : Heap) (C CP : Addr) : Prop := Fn P w K mg base (L2.CX P w) "check_protocol" 3 1 (spCheck C CP)
theorem fn_check {C CP : Addr} (D : Df K mg "check_protocol" sCheck) (T : TProto K mg C) (X : Xcl P w K mg base CP "BadProtocol" "protocol") (m1 : mg "isinstance" = none) : FCheck P w K mg base C CP := by
  refine D.fnX scCheck (by rintro vs H Q E ⟨G, v, d, rfl, _⟩; rfl) rfl (fun _ _ _ _ _ _ us hl => match us, hl with | [_], _ => rfl) fun f cdv A outer s H vs Q E hr hsp => ?_
  obtain ⟨G, v, d, rfl, hG, dv, hd⟩ := hsp
  refine ⟨_, pss_one (ps_if (pt_not (pt_val (xe_isiC (K := K) m1 T.gl (pv 0)))) (pss_one (ps_raiseX (k := 0) X hr (takes_of rfl rfl rfl rfl) (pv 0))) pss_nil), ?_⟩
  rcases hd with ⟨hp, hx⟩ | ⟨⟨n, ss, rfl⟩, kq⟩
  · refine tIf_use (b := true) (TR_not (TR_tB (PR_isiN T.cl (PV dv) hp))) hG fun H1 e1 => iteT ?_
    exact raise_var rfl fun dx H' a b c => hx.back e1 dx H' a b c
  · refine tIf_use (b := false) (TR_not (TR_tB (PR_isiC T.cl (PV dv)))) hG fun H1 e1 => iteF ?_
    exact kq H1 e1
/-! ### goes_on -/
theorem scGoes : FnScope ["protocol"] ["protocol"] (defScope sGoes) := ⟨rfl, rfl, rfl, by decide +kernel, rfl, by decide +kernel, by decide +kernel⟩
def spGoes (C CP : Addr) : Sp := fun vs H Q E => ∃ G v d, vs = [v] ∧ Same G H ∧ Dq G v d ∧ ((plain d = true ∧ XOut CP "protocol" v H E) ∨ (∃ n ss, d = protoD C n ss ∧ Short ss ∧ ∀ v' G' H', Ext G H G' H' → Dq G' v' (optD (stopFrom 0 [] ss)) → Q v' H'))
/-- one parameter, told by its name -/
theorem fnK1 {x a : Str} {k : Nat} {st : Stmt} {sp : Sp} (D : Df K mg x st)
    (hb : ∀ (kV doc pm : Value) (an : Option Addr) (cdv ct : Value) (us : List Value), us.length = 1 → bindArgs (PySem.W.fnOf x x (defArgs st) (defBody st) (defScope st) .none kV doc pm an cdv ct) ⟨us, []⟩ = pure ([a].zip us))
    (hk : ∀ (kV doc pm : Value) (an : Option Addr) (cdv ct : Value) (us : List Value), us.length = 1 → bindArgs (PySem.W.fnOf x x (defArgs st) (defBody st) (defScope st) .none kV doc pm an cdv ct) ⟨[], [a].zip us⟩ = pure ([a].zip us))
    (ok : ∀ f fd, Fun K x x st f fd → FnOk P w K mg base (L2.CX P w) k f fd [a] sp) : FnK P w K mg base (L2.CX P w) x k 1 [a] (fun l => l) sp := by
  obtain ⟨f, fd, h1, h2⟩ := D.ex
  refine ⟨f, fd, [a], h1, h2.kp, rfl, h2.binds hb, fun s ws hl => ?_, fun {vs us} r => r, fun ws hl => hl, ok f fd h2⟩
  obtain ⟨oc, od, kV, doc, pm, an, cdv, ct, osl, rfl, _⟩ := h2.ex
  exact BindsTo.of_eq (hk kV doc pm an cdv ct ws hl)
abbrev FGoes (P : Program) (w : World) (K : PySem.W.Frag) (mg : Str → Option Value) (base : Heap) (C CP : Addr) : Prop := FnK P w K mg base (L2.CX P w) "goes_on" 4 1 ["protocol"] (fun l => l) (spGoes C CP)
theorem fn_goes {C CP : Addr} (D : Df K mg "goes_on" sGoes) (FC : FCheck P w K mg base C CP) (FS : FStop P w K mg base C) : FGoes P w K mg base C CP := by
  refine fnK1 D (fun _ _ _ _ _ _ us hl => match us, hl with | [_], _ => rfl) (fun _ _ _ _ _ _ us hl => match us, hl with | [_], _ => rfl) fun f fd F => ?_
  refine F.okX (N := ["protocol"]) (k := 3) scGoes (by rintro vs H Q E ⟨G, v, d, rfl, _⟩; rfl) fun cdv A outer s H vs Q E hr hsp => ?_
  obtain ⟨G, v, d, rfl, hG, dv, hd⟩ := hsp
  refine ⟨_, pss_cons (ps_expr (pe_fn (E := E) FC hr (by rfl) (passes_call (takes_of rfl rfl rfl rfl) fun _ _ _ _ h => h) (pa_cons (pv 0) pa_nil)))
    (pss_one (ps_ret (pe_fn FS (hr.mono (by decide)) (by rfl) pass0 (pa_cons (pv 0) pa_nil)))), ?_⟩
  refine ⟨v, rfl, G, v, d, rfl, hG, dv, ?_⟩
  rcases hd with h | ⟨n, ss, rfl, hsh, kq⟩
  · exact .inl h
  · refine .inr ⟨⟨n, ss, rfl⟩, fun H' e => ?_⟩
    exact tRet_use (hG.trans e) (PR_call (PRA_one (PV dv)) ⟨n, ss, rfl, rfl, hsh⟩) fun v' G' H2 x dv' => kq v' G' H2 ((Ext.more hG e).trans x) dv'
/-! ### mended -/
abbrev nMended : List Str := ["protocol", "mend", "found"]
theorem scMended : FnScope nMended ["protocol", "mend"] (defScope sMended) := ⟨rfl, rfl, rfl, by decide +kernel, rfl, by decide +kernel, by decide +kernel⟩
def spMended (C CP CM : Addr) : Sp := fun vs H Q E => ∃ G v u d a, vs = [v, u] ∧ Same G H ∧ Dq G v d ∧ Dq G u a ∧ ((plain d = true ∧ XOut CP "protocol" v H E) ∨ (∃ n ss r, d = protoD C n ss ∧ Right ss ∧ AgentN n ∧ Few 999 ss ∧ Obj 10 a ∧ ByOf C n ss a r ∧
  (r = .none → XOut CM "mend" u H E) ∧ (r ≠ .none → ∀ v' G' H', Ext G H G' H' → Dq G' v' r → Q v' H')))
abbrev FMended (P : Program) (w : World) (K : PySem.W.Frag) (mg : Str → Option Value) (base : Heap) (C CP CM : Addr) : Prop := FnK P w K mg base (L2.CX P w) "mended" 11 2 ["mend", "protocol"] (fun l => swap2 l) (spMended C CP CM)
theorem isNon_iff {d : PyData} : PD.isNon d = true ↔ d = .none := by cases d <;> simp [PD.isNon]
theorem fn_mended {C CP CM : Addr} (D : Df K mg "mended" sMended) (FC : FCheck P w K mg base C CP) (FB : FMendBy P w K mg base C) (X : Xcl P w K mg base CM "BadMend" "mend") : FMended P w K mg base C CP CM := by
  refine fnK2 D (fun _ _ _ _ _ _ us hl => match us, hl with | [_, _], _ => rfl) (fun _ _ _ _ _ _ us hl => match us, hl with | [_, _], _ => rfl) fun f fd F => ?_
  refine F.okX (N := nMended) (k := 10) scMended (by rintro vs H Q E ⟨G, v, u, d, a, rfl, _⟩; rfl) fun cdv A outer s H vs Q E hr hsp => ?_
  obtain ⟨G, v, u, d, a, rfl, hG, dv, du, hd⟩ := hsp
  refine ⟨_, pss_cons (ps_expr (pe_fn (E := E) FC (hr.mono (by decide)) (by rfl) (passes_call (takes_of rfl rfl rfl rfl) fun _ _ _ _ h => h) (pa_cons (pv 0) pa_nil)))
    (pss_cons (ps_set (i := 2) scMended.nd rfl (.inl rfl) (pe_fn FB hr (by rfl) pass0 (pa_cons (pv 0) (pa_cons (pv 1) pa_nil))))
    (pss_cons (ps_if (pt_cmpR op_isN (pv 2) pe_non (nomark _)) (pss_one (ps_raiseX (k := 0) X (hr.mono (by decide)) (takes_of rfl rfl rfl rfl) (pv 1))) pss_nil)
    (pss_one (ps_ret (pv 2))))), ?_⟩
  refine ⟨v, rfl, G, v, d, rfl, hG, dv, ?_⟩
  rcases hd with h | ⟨n, ss, r, rfl, hR, hA, hW, ho, hby, kx, kq⟩
  · exact .inl h
  · refine .inr ⟨⟨n, ss, rfl⟩, fun H1 e1 => ?_⟩
    refine tSet_use (hG.trans e1) (PR_call (PRA_two (PV dv) (PV du)) ⟨n, ss, a, rfl, hby, hR, hA, hW, ho⟩) fun v2 G2 H2 e2 d2 => ?_
    refine tIf_use (TR_test (PR_op RR2_isN (PV d2) PR_non)) e2.gh fun H3 e3 => ?_
    cases hn : PD.isNon r with
    | true => exact iteT (raise_var rfl fun dx H' p q t => (kx (isNon_iff.mp hn)).back ((e1.trans e2.hh).trans e3) dx H' p q t)
    | false =>
      refine iteF (nxt ?_)
      dsimp only
      exact tRet_use (e2.gh.trans e3) (PV d2) fun v' G' H' x dv' => kq (fun z => by rw [isNon_iff.mpr z] at hn; cases hn) v' G' H' (((Ext.more hG e1).trans e2).trans ((Ext.more e2.gh e3).trans x)) dv'
end
end K50
set_option Elab.async false
set_option linter.all false
set_option maxRecDepth 100000
set_option maxHeartbeats 4000000
/-! PdC2: comprehensions of two fors -/
namespace PD
open PySem PySem.Spec PyProof.Rows L2 StX RZ
/-- a walk's turns, by what is true between them -/
theorem it_by {J : It} {n : Nat} {G : Hp → Prop} {Y : Nat → Hp → V → Hp → Prop} (w : Walk J n G Y) {Dn : Hp → Prop} {Step : (Hp → Prop) → V → Hp → Prop} {H : Hp} (Pv : Nat → Hp → Prop) (h0 : Pv 0 H) (hG : ∀ i H, i ≤ n → Pv i H → G H)
    (hs : ∀ i x H H', i < n → Pv i H → Y i H x H' → Step (Pv (i + 1)) x H') (hd : ∀ H, Pv n H → Dn H) :
    ∃ W : Nat → Nat → Hp → Prop, (∃ m, W 0 m H) ∧ ∀ i m H, W i m H → (J.stop i H ∧ Dn H) ∨ (J.go i H ∧ ∃ N : Hp → Prop, (∀ H', N H' → ∃ m', m' < m ∧ W (i + 1) m' H') ∧ ∀ x H', J.yld i H x H' → Step N x H') := by
  refine ⟨fun i m H => m + i = n ∧ Pv i H, ⟨n, rfl, h0⟩, fun i m H ⟨e, p⟩ => ?_⟩
  have q := hG i H (by omega) p
  rcases Nat.lt_or_ge i n with hlt | hge
  · exact .inr ⟨w.goes i H hlt q, Pv (i + 1), fun H' p' => ⟨m - 1, by omega, by omega, p'⟩, fun x H' y => hs i x H H' hlt p (w.yields i H x H' hlt q y)⟩
  · have ei : i = n := by omega
    subst ei
    exact .inl ⟨w.stops H q, hd H p⟩
section
variable {σ : L2.St} {G : Hp} {wi wi1 : TI} {tt1 : TT} {te : TE} {vs vs1 : List Nat} {β γ : Type} {bs : List β} {cs : β → List γ} {enc : β → PyData} {enc1 : γ → PyData} {p : β → γ → Bool} {f : β → γ → PyData} {i j : Nat}
theorem get_map {α : Type} {l : List α} {e : α → PyData} {k : Nat} {d : PyData} (h : (l.map e)[k]? = some d) : ∃ b, l[k]? = some b ∧ e b = d := by
  rw [List.getElem?_map] at h
  cases q : l[k]? with
  | none => rw [q] at h; cases h
  | some b => rw [q] at h; exact ⟨b, rfl, Option.some.inj h⟩
/-- [e for x in xs for y in ys if t] -/
theorem PR_lcc (M : Nat) (hw : WR wi σ G (bs.map enc)) (hset : ∀ v, wipe ((wipe σ vs).set i (some v)) vs = wipe σ vs)
    (hw1 : ∀ G1 b v, Same G G1 → b ∈ bs → Dq G1 v (enc b) → WR wi1 ((wipe σ vs).set i (some v)) G1 ((cs b).map enc1))
    (hset1 : ∀ v u, wipe ((wipe ((wipe σ vs).set i (some v)) vs1).set j (some u)) vs1 = wipe ((wipe σ vs).set i (some v)) vs1)
    (hstep : ∀ G1 b c v u, Same G G1 → b ∈ bs → c ∈ cs b → Dq G1 v (enc b) → Dq G1 u (enc1 c) → TR tt1 ((wipe ((wipe σ vs).set i (some v)) vs1).set j (some u)) G1 (p b c) ∧ (p b c = true → PR te ((wipe ((wipe σ vs).set i (some v)) vs1).set j (some u)) G1 (f b c)))
    (hM : ∀ b ∈ bs, (cs b).length ≤ M) (hlen : bs.length * M < sizeLine) :
    PR (tLc2 wi (gName i) tYes wi1 (gName j) tt1 te vs vs1) σ G (.list (bs.flatMap fun b => ((cs b).filter (p b)).map (f b))) := fun H Q hs k => by
  refine hw H _ hs fun J G1 H1 e1 dw D hD => ?_
  have g0 : Gr G1 H1 [D] G1 (upd H1 D (.lst [])) := (Gr.start e1.gh).new hD
  refine it_by dw.w (fun a H2 => ∃ (G2 : Hp) (acc : List V), Gr G1 H1 [D] G2 H2 ∧ H2 D = some (.lst acc) ∧ acc.length ≤ a * M ∧ DqAll G2 acc ((bs.take a).flatMap fun b => ((cs b).filter (p b)).map (f b))) ⟨G1, [], g0, upd_same, by simp, by simp; exact .nil⟩ ?_ ?_ ?_
  · rintro a H2 _ ⟨G2, acc, g, _⟩
    exact g.gg.trans g.gh
  · rintro a x H2 H3 ha ⟨G2, acc, g, hacc, hal, da⟩ ⟨d, b1, b2, b3⟩
    obtain ⟨G3, g3, s3, dx⟩ := g.yld g.gg b3
    obtain ⟨b, c1, rfl⟩ := get_map b1
    have mem : b ∈ bs := List.mem_of_getElem? c1
    have hab : a < bs.length := (List.getElem?_eq_some_iff.mp c1).1
    have etk : bs.take (a + 1) = bs.take a ++ [b] := by rw [List.take_add_one, c1]; rfl
    have g03 : Same G G3 := e1.gg.trans g3.gg
    have hMb := hM b mem
    have hbound : a * M + M ≤ bs.length * M := by
      have := Nat.mul_le_mul_right M (show a + 1 ≤ bs.length from hab)
      rw [Nat.add_mul, Nat.one_mul] at this
      exact this
    refine ⟨hset x, TR_yes (G := G3) H3 _ g3.gh fun H3' e3 => iteT ?_⟩
    have g3' := g3.same e3
    have a3 : H3' D = some (.lst acc) := e3 _ _ (b2 _ _ hacc)
    refine hw1 G3 b x g03 mem dx H3' _ g3'.gh fun J1 G4 H4 e4 dw1 => ?_
    have g4 := g3'.ext e4
    refine it_by dw1.w (fun q H5 => ∃ (G5 : Hp) (ac : List V), Gr G1 H1 [D] G5 H5 ∧ Same G4 G5 ∧ H5 D = some (.lst ac) ∧ ac.length ≤ a * M + q ∧ DqAll G5 ac (((bs.take a).flatMap fun b => ((cs b).filter (p b)).map (f b)) ++ (((cs b).take q).filter (p b)).map (f b))) ⟨G4, acc, g4, Same.refl _, e4.hh _ _ a3, by omega, by simpa using (da.up s3).up e4.gg⟩ ?_ ?_ ?_
    · rintro q H5 _ ⟨G5, ac, g5, s5, _⟩
      exact s5.trans g5.gh
    · rintro q y H5 H6 hq ⟨G5, ac, g5, s5, hac, hl5, d5⟩ ⟨dd, u1, u2, u3⟩
      obtain ⟨G6, g6, s6, dy⟩ := g5.yld s5 u3
      obtain ⟨c, v1, rfl⟩ := get_map u1
      have memc : c ∈ cs b := List.mem_of_getElem? v1
      have hqc : q < (cs b).length := (List.getElem?_eq_some_iff.mp v1).1
      have etq : (cs b).take (q + 1) = (cs b).take q ++ [c] := by rw [List.take_add_one, v1]; rfl
      have s36 : Same G3 G6 := e4.gg.trans (s5.trans s6)
      obtain ⟨ht, he⟩ := hstep G6 b c x y (g03.trans s36) mem memc (dx.up s36) dy
      refine ⟨hset1 x y, ht H6 _ g6.gh fun H7 e7 => ?_⟩
      have g7 := g6.same e7
      have a7 : H7 D = some (.lst ac) := e7 _ _ (u2 _ _ hac)
      cases hp : p b c with
      | false =>
        refine iteF ⟨G6, ac, g7, s5.trans s6, a7, by omega, ?_⟩
        rw [etq, List.filter_append]
        simp only [List.filter_cons, hp, List.filter_nil, Bool.false_eq_true, if_false, List.append_nil]
        exact d5.up s6
      | true =>
        refine iteT ((he hp) H7 _ g7.gh fun z G8 H8 e8 dz => ?_)
        have g8 := g7.ext e8
        refine ⟨ac, e8.hh _ _ a7, by omega, G8, ac ++ [z], g8.put (List.mem_cons_self ..), (s5.trans s6).trans e8.gg, upd_same, by simp; omega, ?_⟩
        rw [etq, List.filter_append, List.map_append, ← List.append_assoc]
        simp only [List.filter_cons, hp, List.filter_nil, if_true, List.map_cons, List.map_nil]
        exact ((d5.up s6).up e8.gg).snoc dz
    · rintro H5 ⟨G5, ac, g5, s5, hac, hl5, d5⟩
      rw [List.length_map] at hl5 d5
      rw [List.take_length] at d5
      refine ⟨G5, ac, g5, hac, ?_, ?_⟩
      · rw [Nat.add_mul, Nat.one_mul]; omega
      · rw [etk, List.flatMap_append]
        simpa using d5
  · rintro H2 ⟨G2, acc, g, hacc, _, da⟩
    rw [List.length_map, List.take_length] at da
    have gf := g.freeze hacc
    exact k (.ref D) _ H2 (e1.trans gf.done) (.lst upd_same (da.up (g.tmp (List.mem_cons_self ..) hacc).2))
end
end PD
set_option Elab.async false
set_option linter.all false
set_option maxRecDepth 100000
set_option maxHeartbeats 4000000
/-! K50i: checked_tries, all_mends -/
namespace K50
open PySem PySem.Spec PyProof.Rows L2 PD StX RZ
abbrev sTries : Stmt := top 39
abbrev sAllM : Stmt := top 40
/-! ### layers in order -/
def sortLs (ls : List Lay) : List Lay := ls.mergeSort fun a b => leD (encL a) (encL b)
theorem sortD_enc (ls : List Lay) : sortD (ls.map encL) = (sortLs ls).map encL := by
  unfold sortD sortLs
  exact (List.map_mergeSort (f := encL) (r := fun a b => leD (encL a) (encL b)) (s := leD) (l := ls) fun a _ b _ => rfl).symm
theorem sortLs_mem {ls : List Lay} {l : Lay} : l ∈ sortLs ls ↔ l ∈ ls := (List.mergeSort_perm ls _).mem_iff
theorem sortLs_len (ls : List Lay) : (sortLs ls).length = ls.length := (List.mergeSort_perm ls _).length_eq
theorem alike_lay (a b : Lay) : PySem.W.alike (encL a) (encL b) = true := by simp [encL, PySem.W.alike, PySem.W.alikeAll]
theorem kin_lays (ls : List Lay) : Kin (ls.map encL) := by
  refine ⟨fun d hd e he => ?_, fun d hd => ?_⟩
  · obtain ⟨a, _, rfl⟩ := List.mem_map.mp hd
    obtain ⟨b, _, rfl⟩ := List.mem_map.mp he
    exact alike_lay a b
  · obtain ⟨a, _, rfl⟩ := List.mem_map.mp hd
    exact ⟨by simp [encL], (encL_sh a).mono (by decide)⟩
theorem okLays_sort {ls : List Lay} (h : okLays ls) : okLays (sortLs ls) := ⟨by rw [sortLs_len]; exact h.1, fun l hl => h.2 l (sortLs_mem.mp hl)⟩
theorem plsD_lays {a : PyData} (h : plsD a = true) (hl : (itemsD a).length ≤ 1000) : ∃ ls, LzLs a ls ∧ okLays ls := by
  unfold plsD at h
  rw [Bool.and_eq_true] at h
  have key : ∀ ds : List PyData, ds.all plD = true → ∃ ls, All2 LzL ds ls ∧ ∀ l ∈ ls, okLay l := by
    intro ds
    induction ds with
    | nil => exact fun _ => ⟨[], .nil, fun _ h => by cases h⟩
    | cons d ds ih =>
      intro hd
      rw [List.all_cons, Bool.and_eq_true] at hd
      obtain ⟨l, h1, h2⟩ := plD_lay hd.1
      obtain ⟨ls, h3, h4⟩ := ih hd.2
      refine ⟨l :: ls, .cons h1 h3, fun x hx => ?_⟩
      rcases List.mem_cons.mp hx with rfl | hx
      · exact h2
      · exact h4 x hx
  obtain ⟨ls, h1, h2⟩ := key _ h.2
  refine ⟨ls, ⟨itemsD a, ?_, h1⟩, by rw [← h1.len]; exact hl, h2⟩
  cases a with
  | list ds => exact .inl rfl
  | tuple ds => exact .inr rfl
  | _ => cases h.1
section
variable {P : Program} {w : World} {K : PySem.W.Frag} {mg : Str → Option Value} {base : Heap}
/-! ### checked_tries -/
theorem scTries : FnScope ["layers"] ["layers"] (defScope sTries) := ⟨rfl, rfl, rfl, by decide +kernel, rfl, by decide +kernel, by decide +kernel⟩
/-- right and unlike layers of parts; what is none -/
def TriesOf (d : PyData) (good : List Lay → Prop) (bad : Prop) : Prop := (plsD d = false → bad) ∧ ∀ ls, LzLs d ls → okLays ls → (unlikeD (ls.map encL) = false → bad) ∧ (unlikeD (ls.map encL) = true → good ls)
def spTries (CL : Addr) : Sp := fun vs H Q E => ∃ G v d, vs = [v] ∧ Same G H ∧ Dq G v d ∧ Obj 10 d ∧ (itemsD d).length ≤ 1000 ∧
  TriesOf d (fun ls => ∀ v' G' H', Ext G H G' H' → Dq G' v' (.list ((sortLs ls).map encL)) → Q v' H') (XOut CL "layers" v H E)
abbrev FTries (P : Program) (w : World) (K : PySem.W.Frag) (mg : Str → Option Value) (base : Heap) (CL : Addr) : Prop := Fn P w K mg base (L2.CX P w) "checked_tries" 6 1 (spTries CL)
theorem fn_tries {CL : Addr} (D : Df K mg "checked_tries" sTries) (FA : FArePL P w K mg base) (FK : FKeptL P w K mg base) (FU : FUnlike P w K mg base) (X : Xcl P w K mg base CL "BadLayers" "layers") (m1 : mg "sorted" = none) : FTries P w K mg base CL := by
  refine D.fnX scTries (by rintro vs H Q E ⟨G, v, d, rfl, _⟩; rfl) rfl (fun _ _ _ _ _ _ us hl => match us, hl with | [_], _ => rfl) fun f cdv A outer s H vs Q E hr hsp => ?_
  obtain ⟨G, v, d, rfl, hG, dv, ho, hz, ht1, ht2⟩ := hsp
  have hu := hr.u65
  refine ⟨_, pss_cons (ps_if (PW.pt (pw_or (pt_not (pt_val (pe_fn FA hr (by rfl) pass0 (pa_cons (pv 0) pa_nil)))) (pw_or1 (pt_not (pt_val (pe_fn FU (hr.mono (by decide)) (by rfl) pass0 (pa_cons (pe_fn FK (hr.mono (by decide)) (by rfl) pass0 (pa_cons (pv 0) pa_nil)) pa_nil)))))))
      (pss_one (ps_raiseX (k := 0) X (hr.mono (by decide)) (takes_of rfl rfl rfl rfl) (pv 0))) pss_nil)
    (pss_one (ps_ret (xe_sorted (K := K) m1 hu (pe_fn FK (hr.mono (by decide)) (by rfl) pass0 (pa_cons (pv 0) pa_nil))))), ?_⟩
  have kp : ∀ ls, LzLs d ls → okLays ls → ∀ {H1 : Hp}, PR (tCall (spP (fArg (fun a => .list ((itemsD a).map tupD)) fun a => isSeq a = true ∧ (∀ d ∈ itemsD a, isSeq d = true) ∧ (itemsD a).length ≤ 1000)) [] E0 (tCons (tVar 0) tNil)) [some v] G (.list (ls.map encL)) := fun ls hl hk H1 =>
    (PR_call (PRA_one (PV dv)) ⟨d, rfl, rfl, (kept_seq hl).1, (kept_seq hl).2, hz⟩).eq (congrArg PyData.list (kept_of hl))
  cases hp : plsD d with
  | false =>
    refine tIf_use (b := true) (TR.eq (TR_or (c := false) (TR_not (TR_tB (PR_call (PRA_one (PV dv)) ⟨d, rfl, rfl, ho, hz⟩))) fun h => ?_) (by rw [hp]; rfl)) hG fun H1 e1 => iteT ?_
    · rw [hp] at h; cases h
    · exact raise_var rfl fun dx H' a b c => (ht1 hp).back e1 dx H' a b c
  | true =>
    obtain ⟨ls, hl, hk⟩ := plsD_lays hp hz
    obtain ⟨hb, hg⟩ := ht2 ls hl hk
    refine tIf_use (b := !unlikeD (ls.map encL)) (TR.eq (TR_or (TR_not (TR_tB (PR_call (PRA_one (PV dv)) ⟨d, rfl, rfl, ho, hz⟩))) fun h => TR_not (TR_tB (PR_call (PRA_one (kp ls hl hk (H1 := H))) ⟨ls.map encL, rfl, rfl, fun x hx => ?_, by rw [List.length_map]; exact hk.1⟩))) (by rw [hp]; rfl)) hG fun H1 e1 => ?_
    · obtain ⟨l, _, rfl⟩ := List.mem_map.mp hx
      exact (encL_sh l).mono (by decide)
    cases hun : unlikeD (ls.map encL) with
    | false => exact iteT (raise_var rfl fun dx H' a b c => (hb hun).back e1 dx H' a b c)
    | true =>
      refine iteF (nxt ?_)
      dsimp only
      refine tRet_use (hG.trans e1) ((PR_CB (RR_sorted (kin_lays ls).sortOk) (PRA_one (kp ls hl hk (H1 := H)))).eq (by rw [sortD_enc])) fun v' G' H' x dv' => hg hun v' G' H' ((Ext.more hG e1).trans x) dv'
/-! ### all_mends -/
def addsAt (ss : List Stp) (ls : List Lay) (i : Nat) : List Mnd := (List.range (roomS ss i + 1)).flatMap fun p => ls.map fun l => .add i p l
def shiftsAt (ss : List Stp) (i : Nat) : List Mnd := (List.range (roomS ss i)).flatMap fun p => ((List.range (roomS ss i)).filter fun t => decide (p ≠ t)).map fun t => .shift i p t
def triesS (ss : List Stp) (ls : List Lay) : List Mnd := (List.range ss.length).flatMap (addsAt ss ls) ++ (List.range ss.length).flatMap (shiftsAt ss)
/-- the protocols that are known, the mends that are found -/
def scanSt (ss : List Stp) (st : List (List Stp) × List Mnd) (m : Mnd) : List (List Stp) × List Mnd := if wrongFrom 0 (mendS ss m) = none ∧ mendS ss m ∉ st.1 then (st.1 ++ [mendS ss m], st.2 ++ [m]) else st
def allMends (ss : List Stp) (ls : List Lay) : List Mnd := ((triesS ss ls).foldl (scanSt ss) ([ss], [])).2
theorem tries_form {ss : List Stp} {ls : List Lay} {m : Mnd} (h : m ∈ triesS ss ls) (ok : okLays ls) : FormM ss m := by
  rcases List.mem_append.mp h with h | h
  · obtain ⟨i, hi, h⟩ := List.mem_flatMap.mp h
    obtain ⟨p, hp, h⟩ := List.mem_flatMap.mp h
    obtain ⟨l, hl, rfl⟩ := List.mem_map.mp h
    exact ⟨List.mem_range.mp hi, by have := List.mem_range.mp hp; omega, ok.2 l hl⟩
  · obtain ⟨i, hi, h⟩ := List.mem_flatMap.mp h
    obtain ⟨p, hp, h⟩ := List.mem_flatMap.mp h
    obtain ⟨t, ht, rfl⟩ := List.mem_map.mp h
    obtain ⟨ht, hn⟩ := List.mem_filter.mp ht
    exact ⟨List.mem_range.mp hi, List.mem_range.mp hp, List.mem_range.mp ht, of_decide_eq_true hn⟩
end
end K50
set_option Elab.async false
set_option linter.all false
set_option maxRecDepth 100000
set_option maxHeartbeats 4000000
/-! K50j: all_mends -/
namespace K50
open PySem PySem.Spec PyProof.Rows L2 PD StX RZ
section
variable {P : Program} {w : World} {K : PySem.W.Frag} {mg : Str → Option Value} {base : Heap}
abbrev nAll : List Str := ["protocol", "layers", "some", "index", "most", "place", "layer", "to", "found", "known", "mend", "other"]
theorem scAll : FnScope nAll ["protocol", "layers"] (defScope sAllM) := ⟨rfl, rfl, rfl, by decide +kernel, rfl, by decide +kernel, by decide +kernel⟩
/-- few steps, few layers: so the lists stay small -/
structure Small (ss : List Stp) (ls : List Lay) : Prop where
  st : ss.length ≤ 20
  rm : ∀ i, roomS ss i ≤ 20
  ly : ls.length ≤ 20
def pairM (C : Addr) (n : Str) (ss : List Stp) (m : Mnd) : PyData := .tuple [encM m, protoD C n (mendS ss m)]
def DAll (C : Addr) (ds : List PyData) (d : PyData) : Prop := ∃ n ss ls, ds = [protoD C n ss, .list (ls.map encL)] ∧ d = .list ((allMends ss ls).map (pairM C n ss)) ∧ Right ss ∧ AgentN n ∧ Few 999 ss ∧ okLays ls ∧ Small ss ls
abbrev FAll (P : Program) (w : World) (K : PySem.W.Frag) (mg : Str → Option Value) (base : Heap) (C : Addr) : Prop := Fn P w K mg base CX0 "all_mends" 11 2 (spP (DAll C))
theorem adds_len {ss : List Stp} {ls : List Lay} (h : Small ss ls) (i : Nat) : (addsAt ss ls i).length ≤ 420 := by
  have hr := h.rm i
  have hl := h.ly
  unfold addsAt
  rw [List.length_flatMap]
  simp only [List.length_map]
  rw [List.map_const', List.sum_replicate_nat, List.length_range]
  calc (roomS ss i + 1) * ls.length ≤ 21 * 20 := Nat.mul_le_mul (by omega) hl
    _ = 420 := rfl
theorem sum_le_mul : ∀ (l : List Nat) (M : Nat), (∀ x ∈ l, x ≤ M) → l.sum ≤ l.length * M
  | [], _, _ => by simp
  | x :: l, M, h => by
    have h1 := h x (List.mem_cons_self ..)
    have h2 := sum_le_mul l M fun y hy => h y (List.mem_cons_of_mem _ hy)
    rw [List.sum_cons, List.length_cons, Nat.add_mul, Nat.one_mul]
    omega
theorem flat_len {α β : Type} {l : List α} {f : α → List β} {M : Nat} (h : ∀ a ∈ l, (f a).length ≤ M) : (l.flatMap f).length ≤ l.length * M := by
  rw [List.length_flatMap]
  have := sum_le_mul (l.map fun a => (f a).length) M fun x hx => by
    obtain ⟨a, ha, rfl⟩ := List.mem_map.mp hx
    exact h a ha
  rw [List.length_map] at this
  exact this
theorem shifts_len {ss : List Stp} {ls : List Lay} (h : Small ss ls) (i : Nat) : (shiftsAt ss i).length ≤ 420 := by
  have hr := h.rm i
  refine Nat.le_trans (flat_len (M := 20) fun p _ => ?_) ?_
  · rw [List.length_map]
    exact Nat.le_trans (List.length_filter_le _ _) (by rw [List.length_range]; exact hr)
  · rw [List.length_range]; omega
theorem flat_congr {α β : Type} {f g : α → List β} : ∀ {l : List α}, (∀ a ∈ l, f a = g a) → l.flatMap f = l.flatMap g
  | [], _ => rfl
  | a :: l, h => by rw [List.flatMap_cons, List.flatMap_cons, h a (List.mem_cons_self ..), flat_congr fun b hb => h b (List.mem_cons_of_mem _ hb)]
theorem range_take (n j : Nat) (h : j < n) : (List.range n).take (j + 1) = (List.range n).take j ++ [j] := by
  rw [List.take_add_one, List.getElem?_range h]; rfl
theorem range_get {n j : Nat} {d : PyData} (h : ((List.range n).map fun i => PyData.int (i : Nat))[j]? = some d) : j < n ∧ d = .int (j : Nat) := by
  rw [List.getElem?_map] at h
  rcases Nat.lt_or_ge j n with hj | hj
  · rw [List.getElem?_range hj] at h
    exact ⟨hj, (Option.some.inj h).symm⟩
  · rw [List.getElem?_eq_none (by rw [List.length_range]; exact hj)] at h
    cases h
theorem scanSt_len (ss : List Stp) (st : List (List Stp) × List Mnd) (m : Mnd) : (scanSt ss st m).1.length ≤ st.1.length + 1 ∧ (scanSt ss st m).2.length ≤ st.2.length + 1 := by
  unfold scanSt
  split <;> simp
theorem scan_len (ss : List Stp) : ∀ (ms : List Mnd) (st : List (List Stp) × List Mnd), (ms.foldl (scanSt ss) st).1.length ≤ st.1.length + ms.length ∧ (ms.foldl (scanSt ss) st).2.length ≤ st.2.length + ms.length
  | [], st => by simp
  | m :: ms, st => by
    have h1 := scan_len ss ms (scanSt ss st m)
    have h2 := scanSt_len ss st m
    rw [List.foldl_cons, List.length_cons]
    omega
section
variable {G : Hp} {ss : List Stp} {ls : List Lay} {i : Nat} {v u p vi vm : V}
abbrev sAt (v u p vi vm : V) : L2.St := [some v, some u, some p, some vi, some vm, none, none, none, none, none, none, none]
/-- [("add", index, place, layer) for place in range(most + 1) for layer in layers] -/
theorem PR_adds (hs : Small ss ls) (du : Dq G u (.list (ls.map encL))) (di : Dq G vi (.int i)) (dm : Dq G vm (.int (roomS ss i))) :
    PR (tLc2 (iRng1 (tCons (tOp (rI0 fun i j => .int (i + j)) (tVar 4) (tC (.int 1))) tNil)) (gName 5) tYes (iList K (tVar 1)) (gName 6) tYes (tTup (tCons (tC (.str "add")) (tCons (tVar 3) (tCons (tVar 5) (tCons (tVar 6) tNil))))) [5, 6] [6]) (sAt v u p vi vm) G (.list ((addsAt ss ls i).map encM)) := by
  have hr := hs.rm i
  have hsz : sizeLine = 16777216 := sizeLine_eq
  refine (PR_lcc (bs := List.range (roomS ss i + 1)) (cs := fun _ => ls) (enc := fun p => .int (p : Nat)) (enc1 := encL) (p := fun _ _ => true) (f := fun p l => encM (.add i p l)) 20 (WR_range1 (by omega) (PRA_one ((PR_op RR2_addI (PV dm) PR_int).eq (by congr 1)))) (fun _ => rfl)
    (fun G1 b x g hb dx => WR_list (PV (du.up g))) (fun _ _ => rfl) (fun G1 b c x y g hb hc dx dy => ⟨TR_yes, fun _ => ?_⟩) (fun _ _ => hs.ly) (by rw [List.length_range]; omega)).eq ?_
  · exact (PR_tup (PRA_cons PR_str (PRA_cons (PV (i := 3) (di.up g)) (PRA_two (PV (i := 5) dx) (PV (i := 6) dy)))) (by show 4 ≤ sizeLine; omega)).eq rfl
  · rw [addsAt, List.map_flatMap]
    congr 1
    refine flat_congr fun x _ => ?_
    rw [List.filter_eq_self.mpr fun _ _ => rfl, List.map_map]; rfl
/-- [("shift", index, place, to) for place in range(most) for to in range(most) if place != to] -/
theorem PR_shifts (hs : Small ss ls) (di : Dq G vi (.int i)) (dm : Dq G vm (.int (roomS ss i))) :
    PR (tLc2 (iRng1 (tCons (tVar 4) tNil)) (gName 5) tYes (iRng1 (tCons (tVar 4) tNil)) (gName 7) (tTest (tOp rNe (tVar 5) (tVar 7))) (tTup (tCons (tC (.str "shift")) (tCons (tVar 3) (tCons (tVar 5) (tCons (tVar 7) tNil))))) [5, 7] [7]) (sAt v u p vi vm) G (.list ((shiftsAt ss i).map encM)) := by
  have hr := hs.rm i
  have hsz : sizeLine = 16777216 := sizeLine_eq
  refine (PR_lcc (bs := List.range (roomS ss i)) (cs := fun _ => List.range (roomS ss i)) (enc := fun p => .int (p : Nat)) (enc1 := fun p => .int (p : Nat)) (p := fun p t => decide (p ≠ t)) (f := fun p t => encM (.shift i p t)) 20 (WR_range1 (by omega) (PRA_one (PV dm))) (fun _ => rfl)
    (fun G1 b x g hb dx => WR_range1 (by omega) (PRA_one (PV (i := 4) (dm.up g)))) (fun _ _ => rfl) (fun G1 b c x y g hb hc dx dy => ⟨TR.eq (TR_test (PR_op RR2_neI (PV (i := 5) dx) (PV (i := 7) dy))) ?_, fun _ => ?_⟩) (fun _ _ => by rw [List.length_range]; exact hr) (by rw [List.length_range]; omega)).eq ?_
  · exact decide_eq_decide.mpr (by omega)
  · exact (PR_tup (PRA_cons PR_str (PRA_cons (PV (i := 3) (di.up g)) (PRA_two (PV (i := 5) dx) (PV (i := 7) dy)))) (by show 4 ≤ sizeLine; omega)).eq rfl
  · rw [shiftsAt, List.map_flatMap]
    congr 1
    refine flat_congr fun x _ => ?_
    rw [List.map_map]; rfl
end
theorem encM_sh (m : Mnd) : Sh 3 (encM m) := by
  cases m with
  | add i p l =>
    refine ShL.tuple fun d hd => ?_
    simp only [List.mem_cons, List.not_mem_nil, or_false] at hd
    rcases hd with rfl | rfl | rfl | rfl
    · exact ⟨by decide +kernel, by simp [PyData.depth]⟩
    · exact (sh_int _).mono (by decide)
    · exact (sh_int _).mono (by decide)
    · exact encL_sh l
  | shift i p t =>
    refine ShL.tuple fun d hd => ?_
    simp only [List.mem_cons, List.not_mem_nil, or_false] at hd
    rcases hd with rfl | rfl | rfl | rfl
    · exact ⟨by decide +kernel, by simp [PyData.depth]⟩
    · exact (sh_int _).mono (by decide)
    · exact (sh_int _).mono (by decide)
    · exact (sh_int _).mono (by decide)
theorem fn_all {C : Addr} (D : Df K mg "all_mends" sAllM) (T : TProto K mg C) (FO : FRoom P w K mg base) (FB : FMendBy P w K mg base C) (m1 : mg "len" = none) (m2 : mg "range" = none)
    (hE : ∃ f fd, PySem.W.findIn K (.ref C) "__eq__" = some (some (.ref f)) ∧ PySem.W.isFn K (.ref f) = true ∧ Binds K fd ["self", "other"] [] ∧ FnOk P w K mg base CX0 1 f fd ["self", "other"] (spP (DEq C))) : FAll P w K mg base C := by
  refine D.pure scAll (by rintro ds d ⟨n, ss, ls, rfl, _⟩; rfl) rfl (fun _ _ _ _ _ _ us hl => match us, hl with | [_, _], _ => rfl) fun f cdv A outer s0 H E G vs ds d Q hr hG hv hD k => ?_
  obtain ⟨n, ss, ls, rfl, rfl, hR, hA, hW, hls, hS⟩ := hD
  obtain ⟨v, u, rfl, dv, du⟩ := hv.two
  have hsz : sizeLine = 16777216 := sizeLine_eq
  have hO : OwnEq (cxOf CX0 P w K mg base nAll "all_mends" (defScope sAllM) f cdv A outer s0 H E).nox 1 C (DEq C) := ⟨let ⟨f, fd, h1, h2, h3, h4⟩ := hE; ⟨f, fd, _, h1, h2, h3, h4⟩, by rintro ds d ⟨n, ss, m, ts, rfl, _⟩; rfl⟩
  refine ⟨_, pss_cons (ps_set (i := 2) scAll.nd rfl (.inl rfl) (pe_lst pa_nil))
    (pss_cons (ps_for PassesOwn.never rfl (pi_range1 rfl m2 (pa_cons (xe_len (K := K) m1 (xe_fld (K := K) (pv 0))) pa_nil)) (pg_name (i := 3) scAll.nd rfl (.inr rfl))
      (pss_cons (ps_set (i := 4) scAll.nd rfl (.inr rfl) (pe_fn FO (hr.mono (by decide)) (by rfl) pass0 (pa_cons (xe_fld (K := K) (pv 0)) (pa_cons (pv 3) pa_nil))))
      (pss_one (xs_extend (pv 2) (pe_lc2 (own := [("place", 5), ("layer", 6)]) (vs1 := [6]) (g := gName 5) (g1 := gName 6) (tt := tYes) (tt1 := tYes) rfl scAll.nd (pi_range1 rfl m2 (pa_cons (pe_op op_add (pv 4) pe_int) pa_nil)) (blkOk_by (N := nAll) (sc := defScope sAllM) (by decide +kernel)) (by decide)
        (fun _ _ _ _ _ => pg_name (i := 5) scAll.nd rfl (.inl rfl)) (fun _ _ _ _ _ => pts_nil) (fun _ _ _ _ _ => xi_list (K := K) (pv 1)) (fun _ _ _ _ _ => pg_name (i := 6) scAll.nd rfl (.inl rfl)) (fun _ _ _ _ _ => pts_nil)
        (fun _ _ _ _ _ => pe_tup (pa_cons pe_str (pa_cons (pv 3) (pa_cons (pv 5) (pa_cons (pv 6) pa_nil))))))))))
    (pss_cons (ps_for PassesOwn.never rfl (pi_range1 rfl m2 (pa_cons (xe_len (K := K) m1 (xe_fld (K := K) (pv 0))) pa_nil)) (pg_name (i := 3) scAll.nd rfl (.inr rfl))
      (pss_cons (ps_set (i := 4) scAll.nd rfl (.inr rfl) (pe_fn FO (hr.mono (by decide)) (by rfl) pass0 (pa_cons (xe_fld (K := K) (pv 0)) (pa_cons (pv 3) pa_nil))))
      (pss_one (xs_extend (pv 2) (pe_lc2 (own := [("place", 5), ("to", 7)]) (vs1 := [7]) (g := gName 5) (g1 := gName 7) (tt := tYes) rfl scAll.nd (pi_range1 rfl m2 (pa_cons (pv 4) pa_nil)) (blkOk_by (N := nAll) (sc := defScope sAllM) (by decide +kernel)) (by decide)
        (fun _ _ _ _ _ => pg_name (i := 5) scAll.nd rfl (.inl rfl)) (fun _ _ _ _ _ => pts_nil) (fun _ _ _ _ _ => pi_range1 rfl m2 (pa_cons (pv 4) pa_nil)) (fun _ _ _ _ _ => pg_name (i := 7) scAll.nd rfl (.inl rfl)) (fun _ _ _ _ _ => pts_one (pt_cmpR op_ne (pv 5) (pv 7) (nomark _)))
        (fun _ _ _ _ _ => pe_tup (pa_cons pe_str (pa_cons (pv 3) (pa_cons (pv 5) (pa_cons (pv 7) pa_nil))))))))))
    (pss_cons (ps_par (i := 8) (j := 9) (by rfl) scAll.nd rfl rfl (by decide) rfl rfl (pa_cons (pe_lst pa_nil) (pa_cons (pe_lst (pa_cons (pv 0) pa_nil)) pa_nil)) (by rfl))
    (pss_cons (ps_for PassesOwn.never rfl (xi_list (K := K) (pv 2)) (pg_name (i := 10) scAll.nd rfl (.inl rfl))
      (pss_cons (ps_set (i := 11) scAll.nd rfl (.inl rfl) (pe_fn FB (hr.mono (by decide)) (by rfl) pass0 (pa_cons (pv 0) (pa_cons (pv 10) pa_nil))))
      (pss_one (ps_if (PW.pt (pw_and (pt_cmpR op_notN (pv 11) pe_non (nomark _)) (pw_and1 (pt_cmpR (op_notInI hO (hr.mono (by decide))) (pv 11) (pv 9) (by rfl)))))
        (pss_cons (xs_append (pv 9) (pv 11)) (pss_one (xs_append (pv 8) (pe_tup (pa_cons (pv 10) (pa_cons (pv 11) pa_nil)))))) pss_nil))))
    (pss_one (ps_ret (pv 8))))))), ?_⟩
  have s0' : ∀ {σ : L2.St} {G1 : Hp}, Same G G1 → σ[0]? = some (some v) → PR (tFld K (tVar 0) "own_steps") σ G1 (encSS ss) := fun g h => PR_stepsF (K := K) T (PR_var h (dv.up g))
  have hst := hS.st
  refine ⟨by show 0 ≤ sizeLine; omega, fun p hp => ?_⟩
  have g0 := (Gr.start hG).new (xs := []) hp
  -- the first loop
  refine tFor_use g0.gh (WR_range1 (by omega) (PRA_one (lenSS (s0' (Same.refl _) rfl)))) fun J G1 H1 e1 dw => ?_
  refine for_nm dw (fun j σ H' => ∃ G' acc x3 x4, Gr G H [p] G' H' ∧ Same G1 G' ∧ H' p = some (.lst acc) ∧ DqAll G' acc ((((List.range ss.length).take j).flatMap (addsAt ss ls)).map encM) ∧ acc.length ≤ j * 420 ∧ σ = [some v, some u, some (.ref p), x3, x4, none, none, none, none, none, none, none])
    ⟨G1, [], none, none, g0.ext e1, Same.refl _, e1.hh _ _ upd_same, by simp; exact .nil, by simp, rfl⟩ ?_ ?_ ?_
  · rintro j σ H' hj ⟨G', acc, x3, x4, g, s, _⟩
    exact s.trans g.gh
  · rintro j d x σ H2 H2' hd ⟨G2, acc, x3, x4, g2, s2, ha, da, hl, rfl⟩ e2 y
    obtain ⟨hjl, rfl⟩ := range_get hd
    obtain ⟨G3, g3, s3, dx⟩ := g2.yld s2 y
    have a3 : H2' p = some (.lst acc) := e2 _ _ ha
    refine tSet_use g3.gh (PR_call (PRA_two (s0' g3.gg rfl) (PV (i := 3) dx)) ⟨ss, j, rfl, rfl, hjl⟩) fun vm G4 H4 e4 dm => ?_
    have g4 := g3.ext e4
    have hadd := adds_len hS j
    refine put_extend g4 (List.mem_cons_self ..) rfl (e4.hh _ _ a3) (PR_adds hS (du.up g4.gg) (dx.up e4.gg) dm) (by rw [List.length_map]; have : j * 420 ≤ 20 * 420 := Nat.mul_le_mul_right _ (by omega); omega) fun vs' G5 H5 g5 s5 d5 h5 _ => ?_
    refine ⟨G5, acc ++ vs', _, _, g5, ((s2.trans s3).trans e4.gg).trans s5, h5, ?_, ?_, rfl⟩
    · rw [range_take _ _ hjl, List.flatMap_append, List.map_append]
      refine (((da.up s3).up e4.gg).up s5).app ?_
      simpa using d5
    · rw [List.length_append, d5.len, List.length_map, Nat.add_mul]; omega
  rintro σ H2 ⟨G2, acc, x3, x4, g2, s2, ha, da, hl, rfl⟩
  rw [List.length_map, List.length_range] at hl da
  rw [List.take_of_length_le (by rw [List.length_range]; exact Nat.le_refl _)] at da
  -- the second loop
  refine tFor_use g2.gh (WR_range1 (by omega) (PRA_one (lenSS (s0' g2.gg rfl)))) fun J G3 H3 e3 dw => ?_
  have g3 := g2.ext e3
  refine for_nm dw (fun j σ H' => ∃ G' acc x3 x4, Gr G H [p] G' H' ∧ Same G3 G' ∧ H' p = some (.lst acc) ∧ DqAll G' acc (((List.range ss.length).flatMap (addsAt ss ls) ++ ((List.range ss.length).take j).flatMap (shiftsAt ss)).map encM) ∧ acc.length ≤ ss.length * 420 + j * 420 ∧ σ = [some v, some u, some (.ref p), x3, x4, none, none, none, none, none, none, none])
    ⟨G3, acc, x3, x4, g3, Same.refl _, e3.hh _ _ ha, by simpa using da.up e3.gg, by omega, rfl⟩ ?_ ?_ ?_
  · rintro j σ H' hj ⟨G', acc, x3, x4, g, s, _⟩
    exact s.trans g.gh
  · rintro j d x σ H4 H4' hd ⟨G4, acc, x3, x4, g4, s4, ha, da, hl, rfl⟩ e4 y
    obtain ⟨hjl, rfl⟩ := range_get hd
    obtain ⟨G5, g5, s5, dx⟩ := g4.yld s4 y
    have a5 : H4' p = some (.lst acc) := e4 _ _ ha
    refine tSet_use g5.gh (PR_call (PRA_two (s0' g5.gg rfl) (PV (i := 3) dx)) ⟨ss, j, rfl, rfl, hjl⟩) fun vm G6 H6 e6 dm => ?_
    have g6 := g5.ext e6
    have hadd := shifts_len hS j
    refine put_extend g6 (List.mem_cons_self ..) rfl (e6.hh _ _ a5) (PR_shifts hS (dx.up e6.gg) dm) (by rw [List.length_map]; have : j * 420 ≤ 20 * 420 := Nat.mul_le_mul_right _ (by omega); have : ss.length * 420 ≤ 20 * 420 := Nat.mul_le_mul_right _ hst; omega) fun vs' G7 H7 g7 s7 d7 h7 _ => ?_
    refine ⟨G7, acc ++ vs', _, _, g7, ((s4.trans s5).trans e6.gg).trans s7, h7, ?_, ?_, rfl⟩
    · rw [range_take _ _ hjl, List.flatMap_append, ← List.append_assoc, List.map_append]
      refine (((da.up s5).up e6.gg).up s7).app ?_
      simpa using d7
    · rw [List.length_append, d7.len, List.length_map, Nat.add_mul]; omega
  rintro σ H4 ⟨G4, acc, x3, x4, g4, s4, ha, da, hl, rfl⟩
  rw [List.length_map, List.length_range] at hl da
  rw [List.take_of_length_le (by rw [List.length_range]; exact Nat.le_refl _)] at da
  have da : DqAll G4 acc ((triesS ss ls).map encM) := da
  have htl : (triesS ss ls).length ≤ 16800 := by
    have := da.len
    rw [List.length_map] at this
    have : ss.length * 420 ≤ 20 * 420 := Nat.mul_le_mul_right _ hst
    omega
  have gf := g4.freeze ha
  have dsome : Dq (upd G4 p (.lst acc)) (.ref p) (.list ((triesS ss ls).map encM)) := .lst upd_same (da.up (g4.tmp (List.mem_cons_self ..) ha).2)
  -- found, known
  refine ⟨by show 0 ≤ sizeLine; omega, fun q1 hq1 => ⟨_, rfl, by show 1 ≤ sizeLine; omega, fun q2 hq2 => ⟨_, _, rfl, ?_⟩⟩⟩
  have gq := (gf.new (xs := []) hq1).new (xs := [v]) hq2
  have n12 : q1 ≠ q2 := ne_of_none upd_same hq2
  have dv' := dv.up gq.gg
  refine tFor_use gq.gh (WR_list (PV (i := 2) dsome)) fun J G5 H5 e5 dw => ?_
  have g5 := gq.ext e5
  refine for_nm dw (fun j σ H' => ∃ G' fa ka x10 x11, Gr G H [q2, q1] G' H' ∧ Same G5 G' ∧ H' q1 = some (.lst fa) ∧ H' q2 = some (.lst ka) ∧ DqAll G' fa ((((triesS ss ls).take j).foldl (scanSt ss) ([ss], [])).2.map (pairM C n ss)) ∧ DqAll G' ka ((((triesS ss ls).take j).foldl (scanSt ss) ([ss], [])).1.map (protoD C n)) ∧
      σ = [some v, some u, some (.ref p), x3, x4, none, none, none, some (.ref q1), some (.ref q2), x10, x11])
    ⟨G5, [], [v], none, none, g5, Same.refl _, e5.hh _ _ (by rw [upd_ne n12, upd_same]), e5.hh _ _ upd_same, .nil, .cons (dv'.up e5.gg) .nil, rfl⟩ ?_ ?_ ?_
  · rintro j σ H' hj ⟨G', fa, ka, x10, x11, g, s, _⟩
    exact s.trans g.gh
  · rintro j d x σ H6 H6' hd ⟨G6, fa, ka, x10, x11, g6, s6, hf, hk, df, dk, rfl⟩ e6 y
    obtain ⟨m, hm1, rfl⟩ := get_map hd
    obtain ⟨G7, g7, s7, dx⟩ := g6.yld s6 y
    have mem : m ∈ triesS ss ls := List.mem_of_getElem? hm1
    have hjl : j < (triesS ss ls).length := (List.getElem?_eq_some_iff.mp hm1).1
    have etk : (triesS ss ls).take (j + 1) = (triesS ss ls).take j ++ [m] := by rw [List.take_add_one, hm1]; rfl
    have hF := tries_form mem hls
    generalize hst' : ((triesS ss ls).take j).foldl (scanSt ss) ([ss], []) = st at df dk
    have hsl := scan_len ss ((triesS ss ls).take j) ([ss], [])
    rw [hst', List.length_take] at hsl
    simp only [List.length_cons, List.length_nil] at hsl
    have enx : ((triesS ss ls).take (j + 1)).foldl (scanSt ss) ([ss], []) = scanSt ss st m := by rw [etk, List.foldl_append, hst']; rfl
    refine tSet_use g7.gh (PR_call (PRA_two (PV (i := 0) (dv.up g7.gg)) (PV (i := 10) dx)) ⟨n, ss, encM m, rfl, .inr ⟨m, hF, lzM_enc m, rfl⟩, hR, hA, hW, .inl ((encM_sh m).mono (by decide))⟩) fun vo G8 H8 e8 do_ => ?_
    have g8 := g7.ext e8
    have f8 : H8 q1 = some (.lst fa) := e8.hh _ _ (e6 _ _ hf)
    have k8 : H8 q2 = some (.lst ka) := e8.hh _ _ (e6 _ _ hk)
    have s68 : Same G6 G8 := s7.trans e8.gg
    refine (TR_test (PR_op RR2_notN (PV (i := 11) do_) PR_non)) H8 _ g8.gh fun H9 e9 => ?_
    have g9 := g8.same e9
    have f9 := e9 _ _ f8
    have k9 := e9 _ _ k8
    by_cases hw : wrongFrom 0 (mendS ss m) = none
    · have eby : byD C n ss m = protoD C n (mendS ss m) := by rw [byD, if_pos hw]
      rw [eby] at do_ ⊢
      refine iteT ?_
      refine ⟨vo, rfl, .ref q2, rfl, q2, ka, st.1.map fun t => decide (t = mendS ss m), rfl, k9, ?_, fun i z b hz hb => ?_, fun H10 e10 => ⟨_, rfl, ?_⟩⟩
      · have := dk.len
        rw [List.length_map] at this ⊢
        exact this
      · obtain ⟨dz, q1', q2'⟩ := (dk.up s68).get hz
        obtain ⟨t, ht, rfl⟩ := get_map q1'
        rw [List.getElem?_map, ht] at hb
        cases hb
        refine ⟨⟨G8, _, _, _, _, g8.gh.trans e9, q2', do_, n, t, n, mendS ss m, rfl, by simp⟩, fun e => ?_⟩
        subst e
        have := Dq.inj _ _ _ q2' do_
        unfold protoD insD at this
        simp only [PyData.dict.injEq, List.cons.injEq, Prod.mk.injEq, PyData.tuple.injEq, and_true, true_and] at this
        refine decide_eq_true ?_
        have h2 := eqv_steps t (mendS ss m)
        rw [this, SeqAt.eqv_refl _ (lzSS_enc _).sh.1] at h2
        exact of_decide_eq_true h2.symm
      have g10 := g9.same e10
      have f10 := e10 _ _ f9
      have k10 := e10 _ _ k9
      by_cases hin : mendS ss m ∈ st.1
      · have hb : (!(st.1.map fun t => decide (t = mendS ss m)).any id) = false := by
          rw [List.any_map]
          simpa using hin
        rw [hb]
        refine iteF ⟨G8, fa, ka, _, _, g10, s6.trans s68, f10, k10, ?_, ?_, rfl⟩
        · rw [enx, scanSt, if_neg (fun z => z.2 hin)]; exact df.up s68
        · rw [enx, scanSt, if_neg (fun z => z.2 hin)]; exact dk.up s68
      · have hb : (!(st.1.map fun t => decide (t = mendS ss m)).any id) = true := by
          rw [List.any_map, Bool.not_eq_true', List.any_eq_false]
          intro t ht
          simp
          rintro rfl
          exact hin ht
        rw [hb]
        refine iteT ?_
        have lk := dk.len
        have lf := df.len
        rw [List.length_map] at lk lf
        refine put_append g10 (List.mem_cons_self ..) rfl k10 (PV (i := 11) do_) (by omega) fun v11 G11 H11 g11 s11 d11 h11 o11 => ?_
        refine put_append g11 (List.mem_cons_of_mem _ (List.mem_cons_self ..)) rfl (o11 q1 _ n12 f10) (PR_tup (PRA_two (PV (i := 10) ((dx.up e8.gg).up s11)) (PV (i := 11) (do_.up s11))) (by show 2 ≤ sizeLine; omega)) (by omega) fun v12 G12 H12 g12 s12 d12 h12 o12 => ?_
        refine ⟨G12, fa ++ [v12], ka ++ [v11], _, _, g12, ((s6.trans s68).trans s11).trans s12, h12, o12 q2 _ (Ne.symm n12) h11, ?_, ?_, rfl⟩
        · rw [enx, scanSt, if_pos ⟨hw, hin⟩, List.map_append]
          exact (((df.up s68).up s11).up s12).snoc d12
        · rw [enx, scanSt, if_pos ⟨hw, hin⟩, List.map_append]
          exact (((dk.up s68).up s11).up s12).snoc (d11.up s12)
    · have eby : byD C n ss m = .none := by rw [byD, if_neg hw]
      rw [eby]
      refine iteF (iteF ⟨G8, fa, ka, _, _, g9, s6.trans s68, f9, k9, ?_, ?_, rfl⟩)
      · rw [enx, scanSt, if_neg (fun z => hw z.1)]; exact df.up s68
      · rw [enx, scanSt, if_neg (fun z => hw z.1)]; exact dk.up s68
  rintro σ H6 ⟨G6, fa, ka, x10, x11, g6, s6, hf, hk, df, dk, rfl⟩
  rw [List.length_map, List.take_length] at df
  have gd := g6.drop
  have ge := gd.freeze hf
  exact ⟨_, rfl, k _ _ _ ge.done (.lst upd_same (df.up (gd.tmp (List.mem_cons_self ..) hf).2))⟩
end
end K50
set_option Elab.async false
set_option linter.all false
set_option maxRecDepth 100000
set_option maxHeartbeats 4000000
/-! K50k: mends -/
namespace K50
open PySem PySem.Spec PyProof.Rows L2 PD StX RZ
abbrev sMends : Stmt := top 41
/-- all kept, a pattern of two names; the items hold no lists: the list is new -/
theorem PRF_two {K : PySem.W.Frag} {σ : L2.St} {G : Hp} {wi : TI} {vs : List Nat} {β : Type} {bs : List β} {e1 e2 : β → PyData} {i j : Nat} (hw : WR wi σ G (bs.map fun b => .tuple [e1 b, e2 b])) (hset : ∀ v u, wipe (((wipe σ vs).set i (some v)).set j (some u)) vs = wipe σ vs)
    (hi : ∀ v u, (((wipe σ vs).set i (some v)).set j (some u))[i]? = some (some v)) (hn : ∀ b ∈ bs, noList (e1 b) = true) (hlen : bs.length ≤ sizeLine) :
    PRF (tLc wi (gTup K 2 (gCons (gName i) (gCons (gName j) gNil))) tYes (tVar i) vs) σ G (.list (bs.map e1)) := fun H Q hs k => by
  refine hw H _ hs fun J G1 H1 x1 dw D hD => ?_
  have g0 : Gr G1 H1 [D] G1 (upd H1 D (.lst [])) := (Gr.start x1.gh).new hD
  refine lc_it dw.w (fun a H2 => ∃ (G2 : Hp) (acc : List V), Gr G1 H1 [D] G2 H2 ∧ H2 D = some (.lst acc) ∧ acc.length ≤ a ∧ DqAll (cut H G2) acc ((bs.take a).map e1)) ⟨G1, [], g0, upd_same, Nat.le_refl _, .nil⟩ ?_ ?_ ?_
  · rintro a H2 _ ⟨G2, acc, g, _⟩
    exact g.gg.trans g.gh
  · rintro a x H2 H3 ha ⟨G2, acc, g, hacc, hal, da⟩ ⟨d, b1, b2, b3⟩
    obtain ⟨G3, g3, s3, dx⟩ := g.yld g.gg b3
    obtain ⟨b, c1, rfl⟩ := get_map b1
    have jb : a < bs.length := (List.getElem?_eq_some_iff.mp c1).1
    have a3 : H3 D = some (.lst acc) := b2 _ _ hacc
    refine gp2 x G3 H3 _ dx g3.gh fun σ' ⟨u, t, du, dt, eσ⟩ => ?_
    subst eσ
    refine ⟨hset u t, TR_yes (G := G3) H3 _ g3.gh fun H4 e4 => iteT ⟨u, hi u t, acc, e4 _ _ a3, by omega, G3, acc ++ [u], (g3.same e4).put (List.mem_cons_self ..), upd_same, by simp; omega, ?_⟩⟩
    rw [List.take_add_one, c1, List.map_append]
    exact (da.up (cut_mono s3)).snoc (Dq.cut _ _ du (hn b (List.mem_of_getElem? c1)))
  · rintro H2 ⟨G2, acc, g, hacc, _, da⟩
    rw [List.length_map, List.take_length] at da
    have gf := g.freeze hacc
    exact k (.ref D) _ H2 (x1.trans gf.done) (.lst (cut_lst upd_same (x1.hh.free hD)) (da.up (cut_mono (g.tmp (List.mem_cons_self ..) hacc).2)))
theorem encM_noList (m : Mnd) : noList (encM m) = true := by
  cases m <;> simp [encM, encL, noList, noListL]
section
variable {P : Program} {w : World} {K : PySem.W.Frag} {mg : Str → Option Value} {base : Heap}
abbrev nMends : List Str := ["protocol", "layers", "mend", "_"]
theorem scMends : FnScope nMends ["protocol", "layers"] (defScope sMends) := ⟨rfl, rfl, rfl, by decide +kernel, rfl, by decide +kernel, by decide +kernel⟩
def spMends (C CP CL : Addr) : Sp := fun vs H Q E => ∃ G v u d a, vs = [v, u] ∧ Same G H ∧ Dq G v d ∧ Dq G u a ∧ ((plain d = true ∧ XOut CP "protocol" v H E) ∨ (∃ n ss, d = protoD C n ss ∧ Right ss ∧ AgentN n ∧ Few 999 ss ∧ Obj 10 a ∧ (itemsD a).length ≤ 1000 ∧
  TriesOf a (fun ls => Small ss (sortLs ls) ∧ ∀ v' G' H', Ext G H G' H' → Dq (cut H G') v' (.list ((allMends ss (sortLs ls)).map encM)) → Q v' H') (XOut CL "layers" u H E)))
abbrev FMends (P : Program) (w : World) (K : PySem.W.Frag) (mg : Str → Option Value) (base : Heap) (C CP CL : Addr) : Prop := FnK P w K mg base (L2.CX P w) "mends" 12 2 ["layers", "protocol"] (fun l => swap2 l) (spMends C CP CL)
theorem tries_len {ss : List Stp} {ls : List Lay} (h : Small ss ls) : (triesS ss ls).length ≤ 16800 := by
  have h1 : ((List.range ss.length).flatMap (addsAt ss ls)).length ≤ 20 * 420 := Nat.le_trans (flat_len fun i _ => adds_len h i) (by rw [List.length_range]; exact Nat.mul_le_mul_right _ h.st)
  have h2 : ((List.range ss.length).flatMap (shiftsAt ss)).length ≤ 20 * 420 := Nat.le_trans (flat_len fun i _ => shifts_len h i) (by rw [List.length_range]; exact Nat.mul_le_mul_right _ h.st)
  unfold triesS
  rw [List.length_append]
  omega
theorem all_len {ss : List Stp} {ls : List Lay} (h : Small ss ls) : (allMends ss ls).length ≤ 16800 := by
  have h1 := (scan_len ss (triesS ss ls) ([ss], [])).2
  have h2 := tries_len h
  unfold allMends
  simp only [List.length_nil] at h1
  omega
theorem fn_mends {C CP CL : Addr} (D : Df K mg "mends" sMends) (FC : FCheck P w K mg base C CP) (FT : FTries P w K mg base CL) (FA : FAll P w K mg base C) : FMends P w K mg base C CP CL := by
  refine fnK2 D (fun _ _ _ _ _ _ us hl => match us, hl with | [_, _], _ => rfl) (fun _ _ _ _ _ _ us hl => match us, hl with | [_, _], _ => rfl) fun f fd F => ?_
  refine F.okX (N := nMends) (k := 11) scMends (by rintro vs H Q E ⟨G, v, u, d, a, rfl, _⟩; rfl) fun cdv A outer s H vs Q E hr hsp => ?_
  obtain ⟨G, v, u, d, a, rfl, hG, dv, du, hd⟩ := hsp
  refine ⟨_, pss_cons (ps_expr (pe_fn (E := E) FC (hr.mono (by decide)) (by rfl) (passes_call (takes_of rfl rfl rfl rfl) fun _ _ _ _ h => h) (pa_cons (pv 0) pa_nil)))
    (pss_one (ps_ret (pe_lc (own := [("mend", 2), ("_", 3)]) (g := gTup K 2 (gCons (gName 2) (gCons (gName 3) gNil))) (tt := tYes) rfl scMends.nd (xi_list (K := K) (pe_fn FA hr (by rfl) pass0 (pa_cons (pv 0) (pa_cons (pe_fn (E := E) FT (hr.mono (by decide)) (by rfl) (passes_call (takes_of rfl rfl rfl rfl) fun _ _ _ _ h => h) (pa_cons (pv 1) pa_nil)) pa_nil)))) (blkOk_by (N := nMends) (sc := defScope sMends) (by decide +kernel))
      (fun _ _ _ _ _ => pg_tup rfl (pgs_cons (pg_name (i := 2) scMends.nd rfl (.inl rfl)) (pgs_cons (pg_name (i := 3) scMends.nd rfl (.inl rfl)) pgs_nil))) (fun _ _ _ _ _ => pts_nil) (fun _ _ _ _ _ => pv 2)))), ?_⟩
  refine ⟨v, rfl, G, v, d, rfl, hG, dv, ?_⟩
  rcases hd with h | ⟨n, ss, rfl, hR, hA, hW, ho, hz, ht1, ht2⟩
  · exact .inl h
  · refine .inr ⟨⟨n, ss, rfl⟩, fun H1 e1 => ?_⟩
    have hsz : sizeLine = 16777216 := sizeLine_eq
    refine ⟨v, rfl, u, rfl, G, u, a, rfl, hG.trans e1, du, ho, hz, fun hp => (ht1 hp).back e1, fun ls hl hk => ⟨fun hb => ((ht2 ls hl hk).1 hb).back e1, fun hg v2 G2 H2 e2 d2 => ?_⟩⟩
    obtain ⟨hS, kq⟩ := (ht2 ls hl hk).2 hg
    refine ⟨G2, _, _, e2.gh, .cons (dv.up e2.gg) (.cons d2 .nil), ⟨n, ss, sortLs ls, rfl, rfl, hR, hA, hW, okLays_sort hk, hS⟩, fun v3 G3 H3 e3 d3 => ?_⟩
    have e13 := (Ext.more hG e1).trans (e2.trans e3)
    cases d3 with
    | @lst a3 xs _ ha hall =>
      refine ⟨_, rfl, ⟨_, SqL.of (e3.gh _ _ ha)⟩, ?_⟩
      have key : PRF (tLc (fun _ H R => R (Itl K a3) H) (gTup K 2 (gCons (gName 2) (gCons (gName 3) gNil))) tYes (tVar 2) [2, 3]) [some v, some u, none, none] G3 (.list ((allMends ss (sortLs ls)).map encM)) :=
        PRF_two (bs := allMends ss (sortLs ls)) (e1 := encM) (e2 := fun m => protoD C n (mendS ss m)) (fun H R hs k => k _ G3 H (.refl hs) (DW_list ha hall)) (fun _ _ => rfl) (fun _ _ => rfl) (fun b _ => encM_noList b) (by have := all_len hS; omega)
      refine key H3 _ e3.gh fun v4 G4 H4 e4 d4 => kq v4 G4 H4 (e13.trans e4) (d4.up (cut_back e13.hh))
end
end K50
set_option Elab.async false
set_option linter.all false
set_option maxRecDepth 100000
set_option maxHeartbeats 4000000
/-! K50l: the stream: _law_stream, _law_draw, _law_mixed -/
namespace K50
open PySem PySem.Spec PyProof.Rows L2 PD StX RZ NdefX LamX
abbrev sStream : Stmt := top 43
abbrev sDraw : Stmt := top 44
abbrev sMixed : Stmt := top 46
section
variable {P : Program} {w : World} {K : PySem.W.Frag} {mg : Str → Option Value} {base : Heap} {t : Tb} {W : Wl} {n m : Nat} {G H H0 : Hp}
/-- the stream's list written -/
theorem WOk_set {cells : List Int} {pend acc : Int} {cnt : Nat} (w : WOk W n H) (h1 : H W.ce = some (.lst (cells.map .int))) (h3 : 0 ≤ pend) (h4 : 0 ≤ acc) (h5 : acc < 2147483647) (h6 : cnt ≤ m) :
    WOk W m (upd H W.st (.lst [.ref W.ce, .int pend, .int cnt, .int acc])) := by
  obtain ⟨ne, ⟨c0, p0, a0, n0, k1, k2, r⟩, tb, tn⟩ := w
  have e : ∀ b u, H b = some u → (∀ zs, u ≠ .lst zs) → upd H W.st (.lst [.ref W.ce, .int pend, .int cnt, .int acc]) b = some u := fun b u q z => by
    rw [upd_ne fun y => by rw [y, k1] at q; exact z _ (Option.some.inj q).symm]; exact q
  refine ⟨ne, ⟨cells, pend, acc, cnt, upd_same, by rw [upd_ne ne.symm]; exact h1, h3, h4, h5, h6⟩, fun p hp => ?_, tabsN_up2 (fun a ps h => e _ _ h fun _ z => nomatch z) (fun a φ h => e _ _ h fun _ z => nomatch z) tn⟩
  obtain ⟨⟨ps, x⟩, y⟩ := tb p hp
  exact ⟨⟨ps, e _ _ x fun _ z => nomatch z⟩, TabX.up2 (fun a ps h => e _ _ h fun _ z => nomatch z) (fun a φ h => e _ _ h fun _ z => nomatch z) _ _ y⟩
theorem WOk_cells {cells : List Int} (w : WOk W n H) : WOk W n (upd H W.ce (.lst (cells.map .int))) := by
  obtain ⟨ne, ⟨c0, p0, a0, n0, k1, k2, r⟩, tb, tn⟩ := w
  have e : ∀ b u, H b = some u → (∀ zs, u ≠ .lst zs) → upd H W.ce (.lst (cells.map .int)) b = some u := fun b u q z => by
    rw [upd_ne fun y => by rw [y, k2] at q; exact z _ (Option.some.inj q).symm]; exact q
  refine ⟨ne, ⟨cells, p0, a0, n0, by rw [upd_ne ne]; exact k1, upd_same, r⟩, fun p hp => ?_, tabsN_up2 (fun a ps h => e _ _ h fun _ z => nomatch z) (fun a φ h => e _ _ h fun _ z => nomatch z) tn⟩
  obtain ⟨⟨ps, x⟩, y⟩ := tb p hp
  exact ⟨⟨ps, e _ _ x fun _ z => nomatch z⟩, TabX.up2 (fun a ps h => e _ _ h fun _ z => nomatch z) (fun a φ h => e _ _ h fun _ z => nomatch z) _ _ y⟩
theorem ExtW_put {a : Addr} {o : HO} (e : ExtW W G H0 G H) (h : a = W.st ∨ a = W.ce) : ExtW W G H0 G (upd H a o) := by
  have ne : ∀ b u, Kp W b u → b ≠ a := fun b u k z => by
    rcases h with h | h
    · exact k.1 (z.trans h)
    · exact k.2.1 (z.trans h)
  refine ⟨fun b u q k => by rw [upd_ne (ne b u k)]; exact e.hh b u q k, fun b q => e.dom b (NdefX.upd_none q), e.gg, fun b u q => ?_, e.fr, e.cl⟩
  rw [upd_ne (ne b u (e.cl b u q))]
  exact e.gh _ _ q
/-! ### _law_draw -/
abbrev nDraw : List Str := ["_law_stream_here", "_law_many", "_law_cell", "_law_digit", "_law_mixed_here"]
theorem scDraw : FnScope nDraw ["_law_stream_here", "_law_many"] (defScope sDraw) := ⟨rfl, rfl, rfl, by decide +kernel, rfl, by decide +kernel, by decide +kernel⟩
def prDraw (ds : List PyData) : Prop := ∃ m : Nat, ds = [.int m] ∧ 0 < m ∧ m < 1073741824
def DDraw (ds : List PyData) (d : PyData) : Prop := ∃ m j : Nat, ds = [.int m] ∧ d = .int j ∧ j < m
theorem int_of_nn {i : Int} (h : 0 ≤ i) : ∃ j : Nat, i = j := ⟨i.toNat, by omega⟩
theorem dq_ints {G : Hp} : ∀ cells : List Int, DqAll G (cells.map .int) (cells.map .int)
  | [] => .nil
  | i :: r => .cons (.int i) (dq_ints r)
theorem lay_ints : ∀ cells : List Int, PyData.canLayAll0 (cells.map .int) = true
  | [] => rfl
  | i :: r => by simp [PyData.canLayAll0, PyData.canLay0, lay_ints r]
theorem dep_ints : ∀ cells : List Int, PyData.depthAll (cells.map .int) ≤ 1
  | [] => by simp [PyData.depthAll]
  | i :: r => by
    have := dep_ints r
    simp only [List.map_cons, PyData.depthAll, PyData.depth]
    omega
theorem at4 {a b c d : V} : atI [a, b, c, d] 0 = some a ∧ atI [a, b, c, d] 1 = some b ∧ atI [a, b, c, d] 2 = some c ∧ atI [a, b, c, d] 3 = some d :=
  ⟨atI_nat (j := 0) rfl, atI_nat (j := 1) rfl, atI_nat (j := 2) rfl, atI_nat (j := 3) rfl⟩
/-- how it stands between two turns -/
def DrawI (W : Wl) (G H0 : Hp) (n m c : Nat) (μ : Nat) (σ : L2.St) (H1 : Hp) : Prop := ∃ (cells : List Int) (pend acc : Int) (x2 : Option V), μ = cells.length ∧ σ = [some (.ref W.st), some (.int m), x2, none, none] ∧
  H1 W.st = some (.lst [.ref W.ce, .int pend, .int (c : Int), .int acc]) ∧ H1 W.ce = some (.lst (cells.map .int)) ∧ 0 ≤ pend ∧ 0 ≤ acc ∧ acc < 2147483647 ∧ WOk W (n + 1) H1 ∧ ExtW W G H0 G H1
theorem while_use {c : TT} {tb : TS} {D : Ends} {σ : L2.St} {H : Hp} (Pv : Nat → L2.St → Hp → Prop) (h0 : ∃ μ, Pv μ σ H) (Rv : Bool → Nat → L2.St → Hp → Prop) (hc : ∀ μ σ H Q, Pv μ σ H → (∀ b H1, Rv b μ σ H1 → Q b H1) → c σ H Q)
    (hb : ∀ μ σ H, Rv true μ σ H → tb { D with nx := fun σ' H' => ∃ μ', μ' < μ ∧ Pv μ' σ' H', ct := fun σ' H' => ∃ μ', μ' < μ ∧ Pv μ' σ' H', bk := D.nx } σ H) (hd : ∀ μ σ H, Rv false μ σ H → D.nx σ H) : tWhile c tb D σ H :=
  ⟨Pv, h0, fun μ σ H hp => hc μ σ H _ hp fun b H1 hr => by
    cases b with
    | true => exact iteT ⟨_, fun σ' H' q => q, hb μ σ H1 hr⟩
    | false => exact iteF (hd μ σ H1 hr)⟩
theorem fn_draw (D : Df K mg "_law_draw" sDraw) (m1 : mg "abs" = none) (m2 : mg "int" = none) : Fn P w K mg base CX0 "_law_draw" 1 2 (spS t (fun _ => 1) prDraw DDraw) := by
  refine D.fn scDraw (by rintro vs H Q E ⟨W, G, ds, n, us, ht, rfl, hG, hcl, hw, hl, hd, ⟨m, rfl, hm0, hm⟩, k⟩; have := hd.len; simp at this; simp [this]) rfl (fun _ _ _ _ _ _ us hl => match us, hl with | [_, _], _ => rfl) fun f cdv A outer s H vs Q E hr hsp => ?_
  obtain ⟨W, G, ds, n, us, ht, rfl, hG, hcl, hw, hl, hd, ⟨m, rfl, hm0, hm⟩, k⟩ := hsp
  obtain ⟨u, rfl, du⟩ := hd.one
  cases du
  have hu := hr.u65
  refine ⟨_, pss_cons (ps_asg (pe_op op_add (pe_ix ix_list (pv 0) pe_int (fun _ _ => rfl)) pe_int) (pg_sub (pv 0) pe_int set_list))
    (pss_cons (ps_while PassesOwn.never (PW.pt (pw_and (pt_cmpR op_eq (pe_ix ix_list (pv 0) pe_int (fun _ _ => rfl)) pe_int (nomark _)) (pw_and1 (xt_ne (K := K) hu (pe_ix ix_list (pv 0) pe_int (fun _ _ => rfl)) (pe_lst pa_nil)))))
      (pss_cons (ps_set (i := 2) scDraw.nd rfl (.inl rfl) (pe_callB call_abs rfl m1 (by decide +kernel) (pa_cons (pe_bm PySem.F.plainAttrs_list PySem.F.slot_list_pop PySem.F.type_list_pop mt_popAt (pe_ix ix_list (pv 0) pe_int (fun _ _ => rfl)) (pa_cons pe_int pa_nil)) pa_nil)))
      (pss_cons (ps_asg (pe_op op_mod (pe_callTy call_int1 rfl m2 (by decide +kernel) (pa_cons (pe_op op_add (pe_op op_add (pe_op op_mul (pe_ix ix_list (pv 0) pe_int (fun _ _ => rfl)) pe_int) (pv 2)) pe_int) pa_nil)) pe_int) (pg_sub (pv 0) pe_int set_list))
      (pss_one (ps_asg (pe_ifExp (pt_cmpR op_ge (pv 2) (pe_op op_pow pe_int pe_int) (nomark _)) (pv 2) pe_int) (pg_sub (pv 0) pe_int set_list))))))
    (pss_cons (ps_if (pt_cmpR op_gt (pe_ix ix_list (pv 0) pe_int (fun _ _ => rfl)) pe_int (nomark _))
      (pss_cons (ps_set (i := 3) scDraw.nd rfl (.inl rfl) (pe_op op_mod (pe_callTy call_int1 rfl m2 (by decide +kernel) (pa_cons (pe_ix ix_list (pv 0) pe_int (fun _ _ => rfl)) pa_nil)) (pv 1)))
      (pss_cons (ps_asg (pe_op op_fdiv (pe_ix ix_list (pv 0) pe_int (fun _ _ => rfl)) (pv 1)) (pg_sub (pv 0) pe_int set_list))
      (pss_one (ps_ret (pv 3))))) pss_nil)
    (pss_cons (ps_set (i := 4) scDraw.nd rfl (.inl rfl) (pe_op op_mod (pe_callTy call_int1 rfl m2 (by decide +kernel) (pa_cons (pe_op op_pow (pe_op op_add (pe_op op_add (pe_ix ix_list (pv 0) pe_int (fun _ _ => rfl)) (pe_op op_mul pe_int (pe_ix ix_list (pv 0) pe_int (fun _ _ => rfl)))) pe_int) pe_int) pa_nil)) pe_int))
    (pss_one (ps_ret (pe_op op_mod (pe_op op_mod (pe_callTy call_int1 rfl m2 (by decide +kernel) (pa_cons (pe_op op_pow (pe_op op_add (pe_op op_add (pe_op op_mul (pv 4) pe_int) (pe_op op_mul pe_int (pe_ix ix_list (pv 0) pe_int (fun _ _ => rfl)))) pe_int) pe_int) pa_nil)) pe_int) (pv 1))))))), ?_⟩
  obtain ⟨cells, pend, acc, cnt, k1, k2, b1, b2, b3, b4⟩ := hw.str
  refine ⟨_, rfl, _, _, _, _, rfl, rfl, SqL.of k1, at4.2.2.1, _, _, rfl, rfl, _, rfl, _, _, _, 2, rfl, rfl, k1, rfl, ?_⟩
  have e1 := ExtW_put (o := .lst [.ref W.ce, .int pend, .int (cnt + 1), .int acc]) (ExtW.refl hG hcl) (.inl rfl)
  have hl' : n + 1 ≤ 2 ^ 40 := hl
  refine while_use (fun μ σ H1 => DrawI W G H n m (cnt + 1) μ σ H1) ⟨cells.length, cells, pend, acc, none, rfl, rfl, upd_same, by rw [upd_ne hw.ne.symm]; exact k2, b1, b2, b3, WOk_set (cnt := cnt + 1) hw k2 b1 b2 b3 (Nat.succ_le_succ b4), e1⟩
    (fun b μ σ H1 => DrawI W G H n m (cnt + 1) μ σ H1 ∧ (b = true → ∃ (cells : List Int) (acc : Int), H1 W.ce = some (.lst (cells.map .int)) ∧ cells ≠ [] ∧ H1 W.st = some (.lst [.ref W.ce, .int 0, .int ((cnt + 1 : Nat) : Int), .int acc]))) ?_ ?_ ?_
  · rintro μ σ H1 Q1 hI hQ
    obtain ⟨cells, pend, acc, x2, rfl, rfl, k1, k2, b1, b2, b3, hw1, e1⟩ := id hI
    refine ⟨_, rfl, _, _, _, _, rfl, rfl, SqL.of k1, at4.2.1, rfl, _, rfl, ?_⟩
    by_cases hp : pend = 0
    · subst hp
      refine iteT ⟨_, rfl, _, _, _, _, rfl, rfl, SqL.of k1, at4.1, by show 0 ≤ sizeLine; omega, fun p hp => ?_⟩
      have up := same_new (o := .lst []) hp
      have hne : p ≠ W.ce := fun z => by rw [z, k2] at hp; cases hp
      refine ⟨.list (cells.map .int), .list [], .lst (SqL.of (up _ _ k2)) (DqAll.dp _ _ (dq_ints (G := H1) cells |>.up up) (noDictL_of_lay _ (lay_ints cells))), .lst (SqL.of upd_same) .nil, ?_, by decide +kernel, _, rfl, ?_⟩
      · have := dep_ints cells
        show (PyData.canLay0 _ && decide (PyData.depth _ ≤ 64)) = true
        rw [Bool.and_eq_true]
        refine ⟨by simp [PyData.canLay0, lay_ints], decide_eq_true ?_⟩
        have e : PyData.depth (.list (cells.map .int)) = PyData.depthAll (cells.map .int) + 1 := by simp [PyData.depth]
        rw [e]; omega
      · have e2 : PyData.eqv (.list (cells.map .int)) (.list []) = cells.isEmpty := by cases cells <;> simp [PyData.eqv, PyData.eqvAll]
        rw [e2]
        have hI2 : DrawI W G H n m (cnt + 1) cells.length [some (.ref W.st), some (.int m), x2, none, none] (upd H1 p (.lst [])) := ⟨cells, 0, acc, x2, rfl, rfl, up _ _ k1, up _ _ k2, b1, b2, b3, hw1.up up, ⟨fun a o q z => up _ _ (e1.hh a o q z), fun a q => e1.dom a (up.free q), e1.gg, e1.gh.trans up, e1.fr, e1.cl⟩⟩
        exact hQ _ _ ⟨hI2, fun z => ⟨cells, acc, up _ _ k2, fun q => by subst q; simp at z, up _ _ k1⟩⟩
    · have hd : decide (V.int pend = V.int 0) = false := decide_eq_false fun z => hp (V.int.inj z)
      rw [hd]
      exact iteF (hQ false _ ⟨hI, fun z => by cases z⟩)
  · rintro μ σ H1 ⟨⟨cells, pend, acc, x2, rfl, rfl, k1, k2, b1, b2, b3, hw1, e1⟩, hne⟩
    obtain ⟨cells', acc', j1, j2, j3⟩ := hne rfl
    rw [k1] at j3
    cases j3
    have ec : cells' = cells := by
      rw [k2] at j1
      have q := HO.lst.inj (Option.some.inj j1)
      exact (List.map_inj_right (fun a b e => V.int.inj e)).mp q.symm
    subst ec
    obtain ⟨c0, rest, rfl⟩ := List.exists_cons_of_ne_nil j2
    refine ⟨_, rfl, _, _, _, _, rfl, rfl, SqL.of k1, at4.1, .inl ⟨rfl, _, SqL.of k2⟩, _, _, 0, 0, _, rfl, rfl, k2, by decide, by decide, by simp [seqIndex?], rfl, _, rfl, ?_⟩
    have hw2 : WOk W (n + 1) (upd H1 W.ce (.lst (((c0 :: rest).map V.int).eraseIdx 0))) := WOk_cells (cells := rest) hw1
    have e2 := ExtW_put (o := .lst (((c0 :: rest).map V.int).eraseIdx 0)) e1 (.inr rfl)
    have j1 : (upd H1 W.ce (.lst (((c0 :: rest).map V.int).eraseIdx 0))) W.st = some (.lst [.ref W.ce, .int 0, .int ((cnt + 1 : Nat) : Int), .int acc]) := by rw [upd_ne hw1.ne]; exact k1
    have j2 : (upd H1 W.ce (.lst (((c0 :: rest).map V.int).eraseIdx 0))) W.ce = some (.lst (rest.map V.int)) := upd_same
    have ha0 : 0 ≤ (if c0 < 0 then -c0 else c0) := by split <;> omega
    revert hw2 e2 j1 j2 ha0
    generalize upd H1 W.ce (.lst (((c0 :: rest).map V.int).eraseIdx 0)) = H2
    generalize (if c0 < 0 then -c0 else c0) = a
    intro hw2 e2 j1 j2 ha0
    refine ⟨_, rfl, _, _, _, _, rfl, rfl, SqL.of j1, at4.2.2.2, _, _, rfl, rfl, .inl ⟨by omega, by omega⟩, _, rfl, _, _, rfl, rfl, _, _, rfl, rfl, .inl ⟨_, rfl, _, _, rfl, rfl, by show (0 : Int) < 2147483647; decide, _, rfl, _, _, _, 3, rfl, rfl, j1, rfl, ?_⟩⟩
    have hm1 : 0 ≤ (acc * 8191 + a + 3) % 2147483647 ∧ (acc * 8191 + a + 3) % 2147483647 < 2147483647 := ⟨Int.emod_nonneg _ (by decide), Int.emod_lt_of_pos _ (by decide)⟩
    have hw3 := WOk_set (m := n + 1) (cnt := cnt + 1) (pend := 0) (acc := ((acc * 8191 + a + 3) % 2147483647)) hw2 j2 (Int.le_refl 0) hm1.1 hm1.2 (Nat.succ_le_succ b4)
    have e3 := ExtW_put (o := .lst [.ref W.ce, .int 0, .int ((cnt + 1 : Nat) : Int), .int ((acc * 8191 + a + 3) % 2147483647)]) e2 (.inl rfl)
    have j3 : (upd H2 W.st (.lst [.ref W.ce, .int 0, .int ((cnt + 1 : Nat) : Int), .int ((acc * 8191 + a + 3) % 2147483647)])) W.st = some (.lst [.ref W.ce, .int 0, .int ((cnt + 1 : Nat) : Int), .int ((acc * 8191 + a + 3) % 2147483647)]) := upd_same
    have j4 : (upd H2 W.st (.lst [.ref W.ce, .int 0, .int ((cnt + 1 : Nat) : Int), .int ((acc * 8191 + a + 3) % 2147483647)])) W.ce = some (.lst (rest.map V.int)) := by rw [upd_ne hw2.ne.symm]; exact j2
    have last : ∀ x : Int, 0 ≤ x → ∃ μ', μ' < (c0 :: rest).length ∧ DrawI W G H n m (cnt + 1) μ' [some (.ref W.st), some (.int m), some (.int a), none, none] (upd (upd H2 W.st (.lst [.ref W.ce, .int 0, .int ((cnt + 1 : Nat) : Int), .int ((acc * 8191 + a + 3) % 2147483647)])) W.st (.lst [.ref W.ce, .int x, .int ((cnt + 1 : Nat) : Int), .int ((acc * 8191 + a + 3) % 2147483647)])) := fun x hx =>
      ⟨rest.length, by simp, rest, x, ((acc * 8191 + a + 3) % 2147483647), _, rfl, rfl, upd_same, by rw [upd_ne hw3.ne.symm]; exact j4, hx, hm1.1, hm1.2, WOk_set (cnt := cnt + 1) hw3 j4 hx hm1.1 hm1.2 (Nat.succ_le_succ b4), ExtW_put e3 (.inl rfl)⟩
    have go : ∀ x : Int, 0 ≤ x → gSub (tVar 0) (tC (.int 1)) rSetL (.int x) [some (.ref W.st), some (.int m), some (.int a), none, none] (upd H2 W.st (.lst [.ref W.ce, .int 0, .int ((cnt + 1 : Nat) : Int), .int ((acc * 8191 + a + 3) % 2147483647)])) (fun σ' H' => ∃ μ', μ' < (c0 :: rest).length ∧ DrawI W G H n m (cnt + 1) μ' σ' H') := fun x hx => ⟨_, rfl, _, _, _, 1, rfl, rfl, j3, rfl, last x hx⟩
    refine ⟨_, rfl, _, _, rfl, rfl, ⟨by decide, by decide, by decide⟩, _, _, rfl, rfl, _, rfl, ?_⟩
    by_cases hge : ((10 : Int) ^ (18 : Int).toNat) ≤ a
    · rw [decide_eq_true hge]
      exact iteT ⟨_, rfl, go a ha0⟩
    · rw [decide_eq_false hge]
      exact iteF (go 0 (Int.le_refl 0))
  · rintro μ σ H1 ⟨⟨cells, pend, acc, x2, rfl, rfl, k1, k2, b1, b2, b3, hw1, e1⟩, _⟩
    have ct : cnt + 1 ≤ 2 ^ 40 := by omega
    have fin : ∀ (x : Int) (H2 : Hp), 0 ≤ x → x < m → ExtW W G H G H2 → WOk W (n + 1) H2 → Q (.int x) H2 := fun x H2 h0 h1 e w2 => by
      obtain ⟨j, rfl⟩ := int_of_nn h0
      exact k (.int (j : Nat)) _ G H2 ⟨m, j, rfl, rfl, by omega⟩ e w2 (.int _)
    refine ⟨_, rfl, _, _, _, _, rfl, rfl, SqL.of k1, at4.2.1, _, _, rfl, rfl, _, rfl, ?_⟩
    have hm' : (0 : Int) < (m : Int) := by omega
    have hm2 : (m : Int) < 1073741824 := by omega
    by_cases hp : 0 < pend
    · rw [decide_eq_true hp]
      refine iteT ⟨_, rfl, _, _, _, _, rfl, rfl, SqL.of k1, at4.2.1, .inl ⟨_, rfl, _, rfl, _, _, rfl, rfl, hm', ?_⟩⟩
      refine ⟨_, rfl, _, _, _, _, rfl, rfl, SqL.of k1, at4.2.1, _, rfl, _, _, rfl, rfl, ⟨hm', hm2⟩, _, rfl, _, _, _, 1, rfl, rfl, k1, rfl, _, rfl, ?_⟩
      exact fin _ _ (Int.emod_nonneg _ (by omega)) (Int.emod_lt_of_pos _ hm') (ExtW_put e1 (.inl rfl)) (WOk_set (cnt := cnt + 1) hw1 k2 (Int.ediv_nonneg b1 (by omega)) b2 b3 (Nat.succ_le_succ b4))
    · rw [decide_eq_false hp]
      refine iteF (nxt ?_)
      refine ⟨_, rfl, _, _, _, _, rfl, rfl, SqL.of k1, at4.2.2.2, _, rfl, _, _, _, _, rfl, rfl, SqL.of k1, at4.2.2.1, _, _, rfl, rfl, .inl ⟨by decide, by decide⟩, _, _, rfl, rfl, _, _, rfl, rfl, _, _, rfl, rfl, ⟨by decide, by decide, ?_⟩, .inl ⟨_, rfl, _, _, rfl, rfl, by show (0 : Int) < 2147483629; decide, ?_⟩⟩
      · omega
      · generalize hx : (acc + 7919 * ((cnt + 1 : Nat) : Int) + 104729) ^ (5 : Int).toNat % 2147483629 = x
        have h0 : 0 ≤ x := by rw [← hx]; exact Int.emod_nonneg _ (by decide)
        have h1 : x < 2147483629 := by rw [← hx]; exact Int.emod_lt_of_pos _ (by decide)
        refine ⟨_, rfl, _, _, rfl, rfl, .inl ⟨by omega, by omega⟩, _, rfl, _, _, _, _, rfl, rfl, SqL.of k1, at4.2.2.1, _, _, rfl, rfl, .inl ⟨by decide, by decide⟩, _, _, rfl, rfl, _, _, rfl, rfl, _, _, rfl, rfl, ⟨by decide, by decide, ?_⟩, .inl ⟨_, rfl, _, _, rfl, rfl, by show (0 : Int) < 1000000007; decide, _, rfl, _, _, rfl, rfl, hm', ?_⟩⟩
        · omega
        · exact fin _ _ (Int.emod_nonneg _ (by omega)) (Int.emod_lt_of_pos _ hm') e1 hw1
end
end K50
set_option Elab.async false
set_option linter.all false
set_option maxRecDepth 100000
set_option maxHeartbeats 4000000
/-! K50m: _law_stream, _law_mixed -/
namespace K50
open PySem PySem.Spec PyProof.Rows L2 PD StX RZ NdefX LamX
section
variable {P : Program} {w : World} {K : PySem.W.Frag} {mg : Str → Option Value} {base : Heap} {t : Tb} {W : Wl} {n m : Nat} {G H H0 : Hp}
/-! ### _law_mixed -/
abbrev nMixed : List Str := ["_law_stream_here", "_law_things", "_law_left", "_law_found", "_law_k"]
theorem scMixed : FnScope nMixed ["_law_stream_here", "_law_things"] (defScope sMixed) := ⟨rfl, rfl, rfl, by decide +kernel, rfl, by decide +kernel, by decide +kernel⟩
def prMixed (ds : List PyData) : Prop := ∃ xs, ds = [.list xs] ∧ xs.length ≤ 1000
def DMixed (ds : List PyData) (d : PyData) : Prop := ∃ xs ys, ds = [.list xs] ∧ d = .list ys ∧ ys.Perm xs
def lenD : List PyData → Nat
  | [.list xs] => xs.length
  | _ => 0
theorem perm_erase {α : Type} {ls : List α} {k : Nat} {x : α} (h : ls[k]? = some x) : (x :: ls.eraseIdx k).Perm ls := by
  induction ls generalizing k with
  | nil => simp at h
  | cons a r ih =>
    cases k with
    | zero => simp at h; subst h; exact List.Perm.refl _
    | succ k =>
      have := ih (k := k) (by simpa using h)
      rw [List.eraseIdx_cons_succ]
      exact (List.Perm.swap _ _ _).trans (this.cons _)
theorem dqAll_erase {G : Hp} : ∀ {vs : List V} {ds : List PyData} (k : Nat), DqAll G vs ds → DqAll G (vs.eraseIdx k) (ds.eraseIdx k)
  | _, _, _, .nil => by simp; exact .nil
  | _, _, 0, .cons h t => by simpa using t
  | _, _, k + 1, .cons h t => by simpa using DqAll.cons h (dqAll_erase k t)
theorem seqIx {j n : Nat} (h : j < n) : seqIndex? (j : Int) n = some j := by
  unfold seqIndex?
  have h1 : ¬ ((j : Int) < 0) := by omega
  have h2 : (decide (0 ≤ (j : Int)) && decide ((j : Int) < (n : Int))) = true := by simp; omega
  simp only [h1, if_false]
  rw [if_pos h2]
  simp
theorem fn_mixed (D : Df K mg "_law_mixed" sMixed) (FD : Fn P w K mg base CX0 "_law_draw" 1 2 (spS t (fun _ => 1) prDraw DDraw)) (m1 : mg "list" = none) (m2 : mg "range" = none) (m3 : mg "len" = none) :
    Fn P w K mg base CX0 "_law_mixed" 2 2 (spS t lenD prMixed DMixed) := by
  refine D.fn scMixed (by rintro vs H Q E ⟨W, G, ds, n, us, ht, rfl, hG, hcl, hw, hl, hd, ⟨xs, rfl, hx⟩, k⟩; have := hd.len; simp at this; simp [this]) rfl (fun _ _ _ _ _ _ us hl => match us, hl with | [_, _], _ => rfl) fun f cdv A outer s H vs Q E hr hsp => ?_
  obtain ⟨W, G, ds, n, us, rfl, rfl, hG, hcl, hw, hl, hd, ⟨xs, rfl, hx⟩, k⟩ := hsp
  obtain ⟨u, rfl, du⟩ := hd.one
  have hsz : sizeLine = 16777216 := sizeLine_eq
  refine ⟨_, pss_cons (ps_par (i := 2) (j := 3) (by rfl) scMixed.nd rfl rfl (by decide) rfl rfl (pa_cons (xe_list (K := K) m1 (pv 1)) (pa_cons (pe_lst pa_nil) pa_nil)) (by rfl))
    (pss_cons (ps_for PassesOwn.never rfl (pi_range1 rfl m2 (pa_cons (xe_len (K := K) m3 (pv 2)) pa_nil)) (pg_name (i := 4) scMixed.nd rfl (.inl rfl))
      (pss_one (xs_append (pv 3) (pe_bm PySem.F.plainAttrs_list PySem.F.slot_list_pop PySem.F.type_list_pop mt_popAt (pv 2) (pa_cons (pe_fn FD hr rfl pass0 (pa_cons (pv 0) (pa_cons (xe_len (K := K) m3 (pv 2)) pa_nil))) pa_nil)))))
    (pss_one (ps_ret (pv 3)))), ?_⟩
  cases du with
  | @lst a vs _ ha hall =>
    refine ⟨_, rfl, ⟨_, _, rfl, .inl (SqL.of (hG _ _ ha)), fun l hl1 => ⟨by show 0 ≤ sizeLine; omega, fun p hp => ⟨_, _, rfl, ?_⟩⟩⟩⟩
    have g0 : GrW W G H [p, l] G (upd (upd H l (.lst vs)) p (.lst [])) := ((GrW.start hG hcl).new hw hl1).new hw hp
    have hw0 : WOk W n (upd (upd H l (.lst vs)) p (.lst [])) := (hw.up (same_new hl1)).up (same_new hp)
    have hlp : l ≠ p := ne_of_none upd_same hp
    refine ⟨_, rfl, l, vs, rfl, .inl (SqL.of (by rw [upd_ne hlp]; exact upd_same)), vs.length, rfl, by have := hall.len; omega, by have := hall.len; omega, ?_⟩
    have hlen := hall.len
    rw [Int.toNat_natCast]
    refine for_range (lo := 0) (n := vs.length) (fun i σ H1 => ∃ (x4 : Option V) (G1 : Hp) (vl vf : List V) (ls fs : List PyData), σ = [some (.ref W.st), some (.ref a), some (.ref l), some (.ref p), x4] ∧ GrW W G H [p, l] G1 H1 ∧ WOk W (n + i) H1 ∧ H1 l = some (.lst vl) ∧ H1 p = some (.lst vf) ∧ DqAll G1 vl ls ∧ DqAll G1 vf fs ∧ (fs ++ ls).Perm xs ∧ fs.length = i) ?_ ?_ ?_
    · exact ⟨none, G, vs, [], xs, [], rfl, g0, hw0, by rw [upd_ne hlp]; exact upd_same, upd_same, hall, .nil, List.Perm.refl _, rfl⟩
    · rintro i σ H1 hi ⟨x4, G1, vl, vf, ls, fs, rfl, g, hw1, q1, q2, d1, d2, hperm, hfl⟩
      have hll : fs.length + ls.length = xs.length := by rw [← List.length_append]; exact hperm.length_eq
      have hvl := d1.len
      refine ⟨_, rfl, .inl ⟨rfl, _, SqL.of q2⟩, ?_⟩
      refine ⟨_, rfl, .inl ⟨rfl, _, SqL.of q1⟩, ?_⟩
      refine ⟨_, rfl, _, rfl, l, vl, rfl, .inl (SqL.of q1), ?_⟩
      have ht : (1 : Nat) ≤ 1 := Nat.le_refl 1
      refine ⟨W, G1, [.int (vl.length : Nat)], n + i, [.int (vl.length : Nat)], rfl, rfl, g.x.gh, g.x.cl, hw1, ?_, .cons (.int _) .nil, ⟨vl.length, rfl, by omega, by omega⟩, ?_⟩
      · have : n + lenD [.list xs] ≤ lim := hl
        have e : lenD [.list xs] = xs.length := rfl
        show n + i + 1 ≤ lim
        omega
      · rintro d v G2 H2 ⟨m, j, e1, rfl, hj⟩ x hw2 dv
        cases dv
        cases e1
        have g2 := g.ext hw x
        have k1 := g.off hw (List.mem_cons_of_mem _ (List.mem_cons_self ..))
        have k2 := g.off hw (List.mem_cons_self ..)
        have r1 := x.hh _ _ q1 ⟨k1.1, k1.2, fun _ z => nomatch z⟩
        have r2 := x.hh _ _ q2 ⟨k2.1, k2.2, fun _ z => nomatch z⟩
        obtain ⟨y, hy⟩ : ∃ y, vl[j]? = some y := ⟨_, List.getElem?_eq_getElem hj⟩
        obtain ⟨dy, hdy, ddy⟩ := (d1.up x.gg).get hy
        refine ⟨_, _, _, j, _, rfl, rfl, r1, by omega, by omega, ?_, hy, ?_⟩
        · exact seqIx hj
        · have g3 := g2.put (xs := vl.eraseIdx j) (List.mem_cons_of_mem _ (List.mem_cons_self ..))
          have hw3 := g2.wput (xs := vl.eraseIdx j) hw hw2 (List.mem_cons_of_mem _ (List.mem_cons_self ..))
          have s2 : (upd H2 l (.lst (vl.eraseIdx j))) p = some (.lst vf) := by rw [upd_ne hlp.symm]; exact r2
          have hvf := d2.len
          refine ⟨_, _, _, rfl, rfl, s2, by omega, ?_⟩
          have g4 := g3.put (xs := vf ++ [y]) (List.mem_cons_self ..)
          have hw4 := g3.wput (xs := vf ++ [y]) hw hw3 (List.mem_cons_self ..)
          refine ⟨_, G2, vl.eraseIdx j, vf ++ [y], ls.eraseIdx j, fs ++ [dy], rfl, g4, ?_, by rw [upd_ne hlp]; exact upd_same, upd_same, dqAll_erase j (d1.up x.gg), (d2.up x.gg).snoc ddy, ?_, by simp [hfl]⟩
          · rw [Nat.add_assoc] at hw4; exact hw4
          · refine List.Perm.trans ?_ hperm
            rw [List.append_assoc]
            exact (perm_erase hdy).append_left fs
    · rintro σ H1 ⟨x4, G1, vl, vf, ls, fs, rfl, g, hw1, q1, q2, d1, d2, hperm, hfl⟩
      have hll : fs.length + ls.length = xs.length := by rw [← List.length_append]; exact hperm.length_eq
      have e0 : ls = [] := List.length_eq_zero_iff.mp (by omega)
      subst e0
      rw [List.append_nil] at hperm
      obtain ⟨g5, sg⟩ := g.freeze hw q2
      refine ⟨_, rfl, k (.list fs) _ _ H1 ⟨xs, fs, rfl, rfl, hperm⟩ g5.x ?_ (.lst upd_same (d2.up sg))⟩
      have e : lenD [.list xs] = vs.length := hlen.symm
      rw [e]; exact hw1
end
end K50
set_option Elab.async false
set_option linter.all false
set_option maxRecDepth 100000
set_option maxHeartbeats 4000000
/-! K50n: _law_loose, _law_things, _law_some_of -/
namespace K50
open PySem PySem.Spec PyProof.Rows L2 PD StX RZ NdefX LamX
abbrev sLoose : Stmt := top 47
section
variable {P : Program} {w : World} {K : PySem.W.Frag} {mg : Str → Option Value} {base : Heap} {t : Tb} {W : Wl} {n m : Nat} {G H H0 : Hp} {σ : L2.St} {c c1 c2 : Nat} {D : PyData → Prop} {ta tb : TE}
theorem PN_slTo {D1 : PyData → Prop} {D2 : PyData → Prop} (h1 : PN W ta σ G c1 D1) (h2 : PN W tb σ G c2 D2) (hD : ∀ a b, D1 a → D2 b → ∃ es j, a = .list es ∧ b = .int (j : Nat) ∧ D (.list (es.take j))) : PN W (tSl (rSlL K) ta tNoPart (tPart tb)) σ G (c1 + c2) D := fun H n Q hs cl hw hl k =>
  h1 H n _ hs cl hw (by omega) fun d1 x G1 H1 hd1 e1 hw1 dx => (h2.mono e1.gg) H1 (n + c1) _ e1.gh e1.cl hw1 (by omega) fun d2 y G2 H2 hd2 e2 hw2 dy => by
    obtain ⟨es, j, rfl, rfl, hd⟩ := hD d1 d2 hd1 hd2
    cases dy
    have dx := dx.up e2.gg
    rw [Nat.add_assoc] at hw2
    refine ⟨_, rfl, ?_⟩
    cases dx with
    | @lst a vs _ ha hall =>
      refine ⟨_, _, rfl, SqL.of (e2.gh _ _ ha), fun p hp => ?_⟩
      have ec : ∀ xs : List V, cutV xs none (some (j : Int)) = xs.take j := fun xs => cutV_take xs j
      rw [ec]
      have y : Ext G2 H2 (upd G2 p (.lst (vs.take j))) (upd H2 p (.lst (vs.take j))) := .new e2.gh hp
      exact k _ _ _ _ hd ((e1.trans e2).trans (y.w e2.cl hw2)) (hw2.up y.hh) (joinG_dq y.gg (.lst upd_same ((hall.take j).up y.gg)))
abbrev FDraw (P : Program) (w : World) (K : PySem.W.Frag) (mg : Str → Option Value) (base : Heap) (t : Tb) : Prop := Fn P w K mg base CX0 "_law_draw" 1 2 (spS t (fun _ => 1) prDraw DDraw)
/-- _law_draw(stream, m), m written -/
theorem PN_draw {i : Nat} {tm : TE} {m : Nat} {E : XK} (hσ : σ[i]? = some (some (.ref W.st))) (hm : PR tm σ G (.int m)) (h0 : 0 < m) (h1 : m < 1073741824) : PN W (tCall (spS W.t (fun _ => 1) prDraw DDraw) [] E (tCons (tVar i) (tCons tm tNil))) σ G 1 (fun d => ∃ j : Nat, d = .int j ∧ j < m) :=
  (PN_callS (c2 := 1) hσ (PNA_of (PRA_one hm)) fun ds e => by
    subst e
    exact ⟨⟨m, rfl, h0, h1⟩, Nat.le_refl _, fun d ⟨m', j, e1, e2, e3⟩ => by cases e1; exact ⟨j, e2, e3⟩⟩).imp (by omega) fun _ h => h
theorem TN_drawEq {i : Nat} {m : Nat} {j : Int} {E : XK} (hσ : σ[i]? = some (some (.ref W.st))) (h0 : 0 < m) (h1 : m < 1073741824) :
    TN W (tTest (tOp rEq (tCall (spS W.t (fun _ => 1) prDraw DDraw) [] E (tCons (tVar i) (tCons (tC (.int m)) tNil))) (tC (.int j)))) σ G 1 (fun _ => True) :=
  TN_test (PN_op (D := fun e => ∃ b, e = .bool b) (D2 := (· = .int j)) (c2 := 0) (fun a b h e => by
    obtain ⟨k, rfl, _⟩ := h
    subst e
    exact ⟨_, ⟨_, rfl⟩, RR2_eqI⟩) (PN_draw hσ PR_int h0 h1) (PN_of PR_int)) fun d ⟨b, e⟩ => ⟨b, e, trivial⟩
theorem TN_drawLt {i : Nat} {m : Nat} {j : Int} {E : XK} (hσ : σ[i]? = some (some (.ref W.st))) (h0 : 0 < m) (h1 : m < 1073741824) :
    TN W (tTest (tOp (rI0 fun i j => .bl (decide (i < j))) (tCall (spS W.t (fun _ => 1) prDraw DDraw) [] E (tCons (tVar i) (tCons (tC (.int m)) tNil))) (tC (.int j)))) σ G 1 (fun _ => True) :=
  TN_test (PN_op (D := fun e => ∃ b, e = .bool b) (D2 := (· = .int j)) (c2 := 0) (fun a b h e => by
    obtain ⟨k, rfl, _⟩ := h
    subst e
    exact ⟨_, ⟨_, rfl⟩, RR2_ltI⟩) (PN_draw hσ PR_int h0 h1) (PN_of PR_int)) fun d ⟨b, e⟩ => ⟨b, e, trivial⟩
/-! ### _law_loose -/
mutual
/-- lists for tuples, tuples for lists, anywhere -/
inductive Lz : PyData → PyData → Prop
  | same {d : PyData} : isSeq d = false → Lz d d
  | seq {d : PyData} {ys : List PyData} {e : PyData} : isSeq d = true → LzAll (itemsD d) ys → (e = .list ys ∨ e = .tuple ys) → Lz d e
inductive LzAll : List PyData → List PyData → Prop
  | nil : LzAll [] []
  | cons {a b : PyData} {as bs : List PyData} : Lz a b → LzAll as bs → LzAll (a :: as) (b :: bs)
end
theorem lzAll_of : ∀ {as bs : List PyData}, Kp2 Lz False as bs → LzAll as bs
  | _, _, .nil => .nil
  | _, _, .keep h t => .cons h (lzAll_of t)
  | _, _, .skip h _ => h.elim
mutual
def nodes : PyData → Nat
  | .list ds => 1 + nodesL ds
  | .tuple ds => 1 + nodesL ds
  | _ => 0
def nodesL : List PyData → Nat
  | [] => 0
  | d :: ds => nodes d + nodesL ds
end
theorem nodesL_sum : ∀ ds : List PyData, nodesL ds = sumC (fun d => nodes d + 0) ds
  | [] => rfl
  | d :: ds => by rw [nodesL, sumC, nodesL_sum ds]; rfl
def headD1 (ds : List PyData) : PyData := ds.headD .none
/-- at most k deep, at most 1000 items each -/
inductive Flat : Nat → PyData → Prop
  | leaf {k : Nat} {d : PyData} : isSeq d = false → PD.plain d = true → Flat k d
  | seq {k : Nat} {d : PyData} : isSeq d = true → (itemsD d).length ≤ 1000 → (∀ x ∈ itemsD d, Flat k x) → Flat (k + 1) d
theorem lzLen : ∀ {as bs : List PyData}, LzAll as bs → as.length = bs.length
  | _, _, .nil => rfl
  | _, _, .cons _ t => by simp [lzLen t]
abbrev nLoose : List Str := ["_law_stream_here", "_law_thing", "_law_some", "_law_one"]
theorem scLoose : FnScope nLoose ["_law_stream_here", "_law_thing"] (defScope sLoose) := ⟨rfl, rfl, rfl, by decide +kernel, rfl, by decide +kernel, by decide +kernel⟩
def prLoose (k : Nat) (ds : List PyData) : Prop := ∃ d, ds = [d] ∧ Flat k d
def DLoose (ds : List PyData) (d : PyData) : Prop := ∃ a, ds = [a] ∧ Lz a d
def cLoose (ds : List PyData) : Nat := nodes (headD1 ds)
theorem flat0 {d : PyData} (h : Flat 0 d) : isSeq d = false := by
  cases h with
  | leaf h _ => exact h
theorem Flat.plain {k : Nat} {d : PyData} (h : Flat k d) : PD.plain d = true := by
  cases h with
  | leaf _ h => exact h
  | seq h _ _ => cases d <;> first | rfl | cases h
theorem loose_body (k : Nat) (D : Df K mg "_law_loose" sLoose) (FD : FDraw P w K mg base t) (FL : ∀ j, j + 1 = k → Fn P w K mg base CX0 "_law_loose" (j + 2) 2 (spS t cLoose (prLoose j) DLoose))
    (m1 : mg "isinstance" = none) (m2 : mg "list" = none) (m3 : mg "tuple" = none) : Fn P w K mg base CX0 "_law_loose" (k + 2) 2 (spS t cLoose (prLoose k) DLoose) := by
  refine D.fn scLoose (by rintro vs H Q E ⟨W, G, ds, n, us, ht, rfl, hG, hcl, hw, hl, hd, ⟨xs, rfl, hx⟩, k⟩; have := hd.len; simp at this; simp [this]) rfl (fun _ _ _ _ _ _ us hl => match us, hl with | [_, _], _ => rfl) fun f cdv A outer s H vs Q E hr hsp => ?_
  obtain ⟨W, G, ds, n, us, rfl, rfl, hG, hcl, hw, hl, hd, ⟨d, rfl, hx⟩, kq⟩ := hsp
  obtain ⟨u, rfl, du⟩ := hd.one
  have hsz : sizeLine = 16777216 := sizeLine_eq
  have hr1 := hr.mono (show 1 ≤ k + 1 by omega)
  have hsq := isSeq_eq d
  have leaf : isSeq d = false → ∀ H1, Same H H1 → Q u H1 := fun h H1 e => kq d u G H1 ⟨d, rfl, .same h⟩ ((ExtW.refl (hG.trans e) hcl).pre e) ((hw.up e).mono (by omega)) du
  cases k with
  | zero =>
    refine ⟨_, pss_cons (ps_if (pt_val (xe_isi2 (K := K) (U := "list") (U' := "tuple") m1 m2 m3 (by decide +kernel) (by decide +kernel) (pv 1))) (pss_cons ps_never (pss_one ps_never)) pss_nil) (pss_one (ps_ret (pv 1))), ?_⟩
    refine tIf_use (TR_tB (PR_isi2 (PV du) (kitL d) (kitT d) hx.plain)) hG fun H1 e1 => ?_
    rw [hsq, flat0 hx]
    exact iteF (nxt ⟨_, rfl, leaf (flat0 hx) H1 e1⟩)
  | succ j =>
    have FL := FL j rfl
    refine ⟨_, pss_cons (ps_if (pt_val (xe_isi2 (K := K) (U := "list") (U' := "tuple") m1 m2 m3 (by decide +kernel) (by decide +kernel) (pv 1)))
      (pss_cons (xs_setLc1 (tt := tYes) nLoose (defScope sLoose) 2 3 (pi_seq (pv 1)) (by decide +kernel) scLoose.nd (.inr rfl) (fun _ _ _ _ _ => pts_nil) (fun _ _ _ _ _ => pe_fn FL hr (by rfl) pass0 (pa_cons (pv 0) (pa_cons (pv 3) pa_nil))) rfl rfl rfl (by decide +kernel))
      (pss_one (ps_ret (pe_ifExp (pt_cmpR op_eq (pe_fn FD hr1 (by rfl) pass0 (pa_cons (pv 0) (pa_cons pe_int pa_nil))) pe_int (nomark _)) (pv 2) (xe_tuple (K := K) m3 (pv 2)))))) pss_nil) (pss_one (ps_ret (pv 1))), ?_⟩
    refine tIf_use (TR_tB (PR_isi2 (PV du) (kitL d) (kitT d) hx.plain)) hG fun H1 e1 => ?_
    rw [hsq]
    cases hs : isSeq d with
    | false => exact iteF (nxt ⟨_, rfl, leaf hs H1 e1⟩)
    | true =>
      obtain ⟨hz, hit⟩ : (itemsD d).length ≤ 1000 ∧ ∀ x ∈ itemsD d, Flat j x := by
        cases hx with
        | leaf h => rw [hs] at h; cases h
        | seq _ h1 h2 => exact ⟨h1, h2⟩
      have hnd : nodes d = 1 + nodesL (itemsD d) := by cases d <;> first | rfl | simp [isSeq] at hs
      have hcl2 : cLoose [d] = nodes d := rfl
      have hde : d = .list (itemsD d) ∨ d = .tuple (itemsD d) := by
        cases d with
        | list ds => exact .inl rfl
        | tuple ds => exact .inr rfl
        | _ => simp [isSeq] at hs
      refine iteT (tSetN_use (hG.trans e1) hcl (hw.up e1) (c := nodesL (itemsD d)) (by rw [hcl2, hnd] at hl; omega) (PN_lc1 (W := W) (G := G) (c := 0) (ct := nodesL (itemsD d)) (DL := (· = itemsD d)) (e1 := fun _ => 0) (e2 := nodes) (FF := Lz) (sk := False) (D := fun e => ∃ ys, e = .list ys ∧ LzAll (itemsD d) ys)
        (WN_seq (PN_of (PV du)) fun x hx => by subst hx; exact ⟨itemsD x, hde, rfl⟩) (fun _ => rfl) (fun ds hds G1 x v h1 hx2 dv hc1 => ?_) (Nat.zero_le _) (fun ds hds => ?_) (fun ds ys hds hk => ?_)) fun d1 v1 G1 H2 hd1 x1 hw1 dv1 => ?_)
      · subst hds
        refine ⟨TN.imp TN_yes (Nat.le_refl _) (fun b hb hb2 => by rw [hb] at hb2; cases hb2), PN.imp (PN_callS (c1 := 0) (c2 := nodes x) rfl (PNA_of (PRA_one (PV dv))) fun ds e => ?_) (by omega) fun _ h => h⟩
        subst e
        exact ⟨⟨x, rfl, hit x hx2⟩, Nat.le_refl _, fun d' ⟨a, e1, e2⟩ => by cases e1; exact e2⟩
      · subst hds
        refine ⟨?_, by omega⟩
        rw [nodesL_sum]
        have : (fun d => 0 + nodes d) = fun d => nodes d + 0 := by funext d; omega
        rw [this]; omega
      · subst hds
        exact ⟨ys, rfl, lzAll_of hk⟩
      · obtain ⟨ys, rfl, hys⟩ := hd1
        have hlen : ys.length = (itemsD d).length := (lzLen hys).symm
        have hlim : n + nodesL (itemsD d) + (1 + 0) ≤ lim := by rw [hcl2, hnd] at hl; omega
        refine tRetN_use x1.gh x1.cl hw1 hlim (PN_ifN (c1 := 1) (c2 := 0) (B := fun _ => True) (D := fun e => e = .list ys ∨ e = .tuple ys) (TN_drawEq (m := 2) rfl (by decide) (by decide))
          (fun _ => PN.imp (PN_of (PV dv1)) (Nat.le_refl _) fun e h => .inl h) (fun _ => PN.imp (PN_of (PR_CB RR_tupleL (PRA_one (PV dv1)))) (Nat.le_refl _) fun e h => .inr h))
          fun e v2 G2 H3 he x2 hw2 dv2 => kq e v2 G2 H3 ⟨d, rfl, .seq hs hys he⟩ ((x1.trans x2).pre e1) (hw2.mono ?_) dv2
        rw [hcl2, hnd]; omega
theorem fn_loose (D : Df K mg "_law_loose" sLoose) (FD : FDraw P w K mg base t) (m1 : mg "isinstance" = none) (m2 : mg "list" = none) (m3 : mg "tuple" = none) : ∀ k : Nat, Fn P w K mg base CX0 "_law_loose" (k + 2) 2 (spS t cLoose (prLoose k) DLoose)
  | 0 => loose_body 0 D FD (fun j h => by omega) m1 m2 m3
  | k + 1 => loose_body (k + 1) D FD (fun j h => by
      have e : j = k := by omega
      subst e
      exact fn_loose D FD m1 m2 m3 j) m1 m2 m3
end
end K50
set_option Elab.async false
set_option linter.all false
set_option maxRecDepth 100000
set_option maxHeartbeats 4000000
/-! K50o: _law_same -/
namespace K50
open PySem PySem.Spec PyProof.Rows L2 PD StX RZ NdefX LamX
abbrev sSame : Stmt := top 48
section
variable {X : Cx} {K : PySem.W.Frag} {e : Expr} {te : TE} {p q pos p2 p3 p4 p5 : Pos}
theorem kit3 {x T U V : String} {b c d : Bool} (hk : kitB x T = some b) (hu : kitB x U = some c) (hv : kitB x V = some d) : PySem.W.kitAny K (.type x) [.type T, .type U, .type V] = some (b || (c || d)) := by
  refine kitAny_cons (kit_ty hk) (fun e => ?_) (fun e => by rw [e]; rfl)
  rw [e, Bool.false_or]
  exact kit2 hu hv
theorem PR_isi3 {σ : L2.St} {G : Hp} {d : PyData} {T U V : String} {a b c : Bool} (h : PR te σ G d) (hk : kitB (tyOf d) T = some a) (hu : kitB (tyOf d) U = some b) (hv : kitB (tyOf d) V = some c) (hpl : PD.plain d = true := by rfl) :
    PR (tCB (rIsiT K) (tCons te (tCons (tTup (tCons (tC (.ty T)) (tCons (tC (.ty U)) (tCons (tC (.ty V)) tNil)))) tNil))) σ G (.bool (a || (b || c))) := fun H Q hs k =>
  h H _ hs fun v G1 H1 e1 dv => ⟨by show 3 ≤ sizeLine; rw [sizeLine_eq]; omega, fun p hp =>
    ⟨v, p, [.ty T, .ty U, .ty V], _, [.type T, .type U, .type V], a || (b || c), rfl, upd_same, .cons (.ty T) (.cons (.ty U) (.cons (.ty V) .nil)), ((dv.up e1.gh).up (same_new hp)).ty hpl,
      kit3 hk hu hv,
      k _ G1 _ (e1.trans (Ext.more e1.gh (same_new hp))) (.bl _)⟩⟩
theorem PR_isi3I {σ : L2.St} {G : Hp} {T U V : String} {C : Addr} {xs : List Str} {es : List PyData} (c : PCls K C) (h : PR te σ G (insD C xs es)) (hT : T ∈ ["list", "tuple", "dict", "str", "bool", "int"]) (hU : U ∈ ["list", "tuple", "dict", "str", "bool", "int"]) (hV : V ∈ ["list", "tuple", "dict", "str", "bool", "int"]) :
    PR (tCB (rIsiT K) (tCons te (tCons (tTup (tCons (tC (.ty T)) (tCons (tC (.ty U)) (tCons (tC (.ty V)) tNil)))) tNil))) σ G (.bool false) := fun H Q hs k =>
  h H _ hs fun v G1 H1 e1 dv => ⟨by show 3 ≤ sizeLine; rw [sizeLine_eq]; omega, fun p hp =>
    ⟨v, p, [.ty T, .ty U, .ty V], _, [.type T, .type U, .type V], false, rfl, upd_same, .cons (.ty T) (.cons (.ty U) (.cons (.ty V) .nil)), ((dv.up e1.gh).up (same_new hp)).tyI c,
      kitAny_cons (c.no T hT) (fun _ => kitAny_cons (c.no U hU) (fun _ => kitAny_cons (c.no V hV) (fun _ => kitAny_nil) fun e => by cases e) fun e => by cases e) (fun e => by cases e),
      k _ G1 _ (e1.trans (Ext.more e1.gh (same_new hp))) (.bl _)⟩⟩
/-- either rule -/
theorem op_or {f : Value → Value → Sem Value} {r r' : R2} (h : OpR X f r) (h' : OpR X f r') : OpR X f (fun x y H Q => r x y H Q ∨ r' x y H Q) := fun pins s σ H x y v u Q I rx ry q => q.elim (h pins s σ H x y v u Q I rx ry) (h' pins s σ H x y v u Q I rx ry)
theorem RR2_l {r r' : R2} {d1 d2 d : PyData} (h : RR2 r d1 d2 d) : RR2 (fun x y H Q => r x y H Q ∨ r' x y H Q) d1 d2 d := fun x y G H Q hs h1 h2 k => .inl (h x y G H Q hs h1 h2 k)
theorem RR2_r {r r' : R2} {d1 d2 d : PyData} (h : RR2 r' d1 d2 d) : RR2 (fun x y H Q => r x y H Q ∨ r' x y H Q) d1 d2 d := fun x y G H Q hs h1 h2 k => .inr (h x y G H Q hs h1 h2 k)
theorem xe_isi3 {T T' T2 : Str} {U U' U2 : String} {k : Nat} (m : X.mg "isinstance" = none) (mT : X.mg T = none) (mT' : X.mg T' = none) (mT2 : X.mg T2 = none) (hv : bootBuiltins T = some (.type U)) (hv' : bootBuiltins T' = some (.type U')) (hv2 : bootBuiltins T2 = some (.type U2)) (ha : PE X e te) (hg : Gl X "isinstance" := by rfl)
    (hT : Gl X T := by rfl) (hT' : Gl X T' := by rfl) (hT2 : Gl X T2 := by rfl) (hK : X.K = K := by rfl) (hn : T ≠ "__name__" := by decide) (hd : (T == ("__debug__" : Str)) = false := by decide) (hn' : T' ≠ "__name__" := by decide) (hd' : (T' == ("__debug__" : Str)) = false := by decide)
    (hn2 : T2 ≠ "__name__" := by decide) (hd2 : (T2 == ("__debug__" : Str)) = false := by decide)
    (hs : starEach [e, .Tuple [.Name T p2, .Name T' p3, .Name T2 p5] k p4] X.env = (false, eval e X.env) :: starEach [.Tuple [.Name T p2, .Name T' p3, .Name T2 p5] k p4] X.env := by rfl)
    (hs2 : starEach [.Tuple [.Name T p2, .Name T' p3, .Name T2 p5] k p4] X.env = (false, eval (.Tuple [.Name T p2, .Name T' p3, .Name T2 p5] k p4) X.env) :: starEach [] X.env := by rfl)
    (hs3 : starEach [.Name T p2, .Name T' p3, .Name T2 p5] X.env = (false, eval (.Name T p2) X.env) :: starEach [.Name T' p3, .Name T2 p5] X.env := by rfl)
    (hs4 : starEach [.Name T' p3, .Name T2 p5] X.env = (false, eval (.Name T' p3) X.env) :: starEach [.Name T2 p5] X.env := by rfl) (hs5 : starEach [.Name T2 p5] X.env = (false, eval (.Name T2 p5) X.env) :: starEach [] X.env := by rfl)
    (hpl : (backTo pos (starEach [.Tuple [.Name T p2, .Name T' p3, .Name T2 p5] k p4] X.env)).any (·.1) = false := by rfl) :
    PE X (.Call (.Name "isinstance" p) [e, .Tuple [.Name T p2, .Name T' p3, .Name T2 p5] k p4] [] pos) (tCB (rIsiT K) (tCons te (tCons (tTup (tCons (tC (.ty U)) (tCons (tC (.ty U')) (tCons (tC (.ty U2)) tNil)))) tNil))) :=
  hK ▸ pe_callB (call_isiT (X := X)) hg m (by decide +kernel) (pa_cons ha (pa_cons (pe_tup (pa_cons (pe_bltn (v := .ty U) hT mT hv rfl hn hd) (pa_cons (pe_bltn (v := .ty U') hT' mT' hv' rfl hn' hd') (pa_cons (pe_bltn (v := .ty U2) hT2 mT2 hv2 rfl hn2 hd2) pa_nil hs5) hs4) hs3)) pa_nil hs2) hs) (he := hs) (hpl := hpl)
def tNo : TE := fun _ _ _ => False
theorem pe_no : PE X e tNo := ⟨fun _ _ _ _ _ _ h => h.elim⟩
end
section
variable {P : Program} {w : World} {K : PySem.W.Frag} {mg : Str → Option Value} {base : Heap} {t : Tb} {W : Wl} {n m : Nat} {G H H0 : Hp}
/-- at most k deep; leaves are plain data or {} -/
inductive Rel (C : Addr) : Nat → PyData → Prop
  | leaf {k : Nat} {d : PyData} : isSeq d = false → (isD d = true → d = .dict []) → (isD d = false → SeqAt.shaped d = true) → Rel C k d
  | ins {k : Nat} {n : Str} {ss : List Stp} : Rel C k (protoD C n ss)
  | seq {k : Nat} {d : PyData} : isSeq d = true → (itemsD d).length ≤ 1000 → (∀ x ∈ itemsD d, Rel C k x) → Rel C (k + 1) d
abbrev nSame : List Str := ["_law_found", "_law_due", "_law_mine", "_law_theirs", "_law_key"]
theorem scSame : FnScope nSame ["_law_found", "_law_due"] (defScope sSame) := ⟨rfl, rfl, rfl, by decide +kernel, rfl, by decide +kernel, by decide +kernel⟩
/-- of equal data the answer is True -/
def DSame (C : Addr) (k : Nat) (ds : List PyData) (d : PyData) : Prop := ∃ a, ds = [a, a] ∧ d = .bool true ∧ Rel C k a
theorem RR_lenD : RR (fun xs H Q => ∃ a kvs, xs = [V.ref a] ∧ H a = some (.dK kvs) ∧ Q (.int kvs.length) H) [.dict []] (.int 0) := fun vs G H Q hs hd k => by
  obtain ⟨x, rfl, hx⟩ := hd.one
  cases hx with
  | dict ha => exact ⟨_, [], rfl, hs _ _ ha, k _ G H (.refl hs) (.int _)⟩
theorem leaf_shaped {C : Addr} {k : Nat} {a : PyData} (h : Rel C k a) (hs : isSeq a = false) (hd : isD a = false) : SeqAt.shaped a = true := by
  cases h with
  | leaf _ _ h => exact h hd
  | ins => cases hd
  | seq h _ _ => rw [hs] at h; cases h
theorem leaf_dict {C : Addr} {k : Nat} {a : PyData} (h : Rel C k a) (hs : isSeq a = false) (hd : isD a = true) (hp : PD.plain a = true) : a = .dict [] := by
  cases h with
  | leaf _ h _ => exact h hd
  | ins => cases hp
  | seq h _ _ => rw [hs] at h; cases h
theorem Rel.either {C : Addr} {k : Nat} {a : PyData} (h : Rel C k a) : PD.plain a = true ∨ ∃ n ss, a = protoD C n ss := by
  cases h with
  | leaf h1 h2 h3 =>
    left
    cases hd : isD a with
    | true => rw [h2 hd]; rfl
    | false => cases a <;> first | rfl | cases hd
  | ins => exact .inr ⟨_, _, rfl⟩
  | seq h _ _ => left; cases a <;> first | rfl | cases h
theorem rel0 {C : Addr} {a : PyData} (h : Rel C 0 a) (hs : isSeq a = true) : False := by
  cases h with
  | leaf h _ _ => rw [hs] at h; cases h
  | ins => cases hs
theorem leaf_eqv {a : PyData} (hs : isSeq a = false) (hd : isD a = false) : PyData.eqv a a = true := by
  cases a <;> first | rfl | (simp [isSeq] at hs; done) | (simp [isD] at hd; done) | simp [PyData.eqv]
theorem dict_all {o : Option V} {G H : Hp} {v : V} {te : TE} {De : Ends} (hs : Same G H) (dv : Dq G v (.dict [])) (k : ∀ v' G' H', Ext G H G' H' → Dq G' v' (.bool true) → De.rt v' H') :
    tRet (tLockE (tCB (rAll K) (tCons (tLc (L2.iKeys (tVar 1)) (gName 4) tYes te [4]) tNil))) De [o, some v, none, none, none] H := by
  cases dv with
  | @dict a ha =>
    refine ⟨a, .dK [], hs _ _ ha, True.intro, fun od => ⟨_, rfl, a, od, rfl, .inl ⟨[], upd_same, fun D hD => ?_⟩⟩⟩
    refine lc_it walk_keys (fun i H2 => H2 = upd (upd H a (.frz od (.dK []))) D (.lst [])) rfl ?_ ?_ ?_
    · rintro i H2 _ rfl
      rw [upd_ne (ne_of_none upd_same hD), upd_same]
    · rintro i x H2 H3 hi
      exact absurd hi (by simp)
    · rintro H2 rfl
      refine ⟨_, [], rfl, SqL.of upd_same, by rw [upd_ne (ne_of_none upd_same hD), upd_same], ?_⟩
      have hD0 : H D = none := NdefX.upd_none hD
      have aD : a ≠ D := ne_of_none (hs _ _ ha) hD0
      have e : upd (upd (upd H a (.frz od (.dK []))) D (.lst [])) a (.dK []) = upd H D (.lst []) := by
        funext b
        by_cases h1 : b = a
        · subst h1; rw [upd_same, upd_ne aD]; exact (hs _ _ ha).symm
        · rw [upd_ne h1]
          by_cases h2 : b = D
          · subst h2; rw [upd_same, upd_same]
          · rw [upd_ne h2, upd_ne h1, upd_ne h2]
      rw [e]
      exact k _ _ _ (Ext.more hs (same_new hD0)) (.bl _)
theorem zipD_self : ∀ ys : List PyData, zipD ys ys = ys.map fun x => .tuple [x, x]
  | [] => rfl
  | y :: ys => by
    have e := zipD_self ys
    unfold zipD at e ⊢
    rw [List.zipWith_cons_cons, e]
    rfl
theorem same_body {C : Addr} (T : TProto K mg C) (hE : ∃ f fd, PySem.W.findIn K (.ref C) "__eq__" = some (some (.ref f)) ∧ PySem.W.isFn K (.ref f) = true ∧ Binds K fd ["self", "other"] [] ∧ FnOk P w K mg base CX0 1 f fd ["self", "other"] (spP (DEq C))) (k : Nat) (D : Df K mg "_law_same" sSame) (FS : ∀ j, j + 1 = k → Fn P w K mg base CX0 "_law_same" (j + 2) 2 (spP (DSame C j))) (m1 : mg "isinstance" = none) (m2 : mg "list" = none) (m3 : mg "tuple" = none) (m4 : mg "len" = none) (m5 : mg "all" = none) (m6 : mg "zip" = none) (m7 : mg "dict" = none) (m8 : mg "bool" = none) :
    Fn P w K mg base CX0 "_law_same" (k + 2) 2 (spP (DSame C k)) := by
  refine D.pure scSame (by rintro ds d ⟨a, rfl, _⟩; rfl) rfl (fun _ _ _ _ _ _ us hl => match us, hl with | [_, _], _ => rfl) fun f cdv A outer s H E G vs ds d Q hr hG hv hD kq => ?_
  obtain ⟨a, rfl, rfl, hx⟩ := hD
  obtain ⟨v, u, rfl, dv, du⟩ := hv.two
  have hu := hr.u65
  have hsz : sizeLine = 16777216 := sizeLine_eq
  have hO : OwnEq (cxOf CX0 P w K mg base nSame "_law_same" (defScope sSame) f cdv A outer s H E).nox 1 C (DEq C) := ⟨let ⟨f, fd, h1, h2, h3, h4⟩ := hE; ⟨f, fd, _, h1, h2, h3, h4⟩, by rintro ds d ⟨n, ss, m, ts, rfl, _⟩; rfl⟩
  cases k with
  | zero =>
    refine ⟨_, pss_cons (ps_if (pt_val (xe_isi2 (K := K) (U := "list") (U' := "tuple") m1 m2 m3 (by decide +kernel) (by decide +kernel) (pv 1)))
      (pss_cons (ps_if (pw_or (pt_cmpR op_ne (xe_isi (K := K) (U := "list") m1 m2 (by decide +kernel) (pv 0)) (xe_isi (K := K) (U := "list") m1 m2 (by decide +kernel) (pv 1)) (nomark _)) (pw_or1 (pt_cmpR op_ne (xe_isi (K := K) (U := "tuple") m1 m3 (by decide +kernel) (pv 0)) (xe_isi (K := K) (U := "tuple") m1 m3 (by decide +kernel) (pv 1)) (nomark _)))).pt (pss_one (ps_ret pe_bl)) pss_nil)
      (pss_one (ps_ret (pe_and (pe_cmpR op_eq (xe_len (K := K) m4 (pv 0)) (xe_len (K := K) m4 (pv 1)) (nomark _)) (pe_one (xe_all (K := K) m5
        (pe_lc (own := [("_law_mine", 2), ("_law_theirs", 3)]) (g := gTup K 2 (gCons (gName 2) (gCons (gName 3) gNil))) (tt := tYes) rfl scSame.nd (pi_zipA rfl m6 (pa_cons (pv 0) (pa_cons (pv 1) pa_nil))) (blkOk_by (N := nSame) (sc := defScope sSame) (by decide +kernel))
          (fun _ _ _ _ _ => pg_tup rfl (pgs_cons (pg_name (i := 2) scSame.nd rfl (.inl rfl)) (pgs_cons (pg_name (i := 3) scSame.nd rfl (.inl rfl)) pgs_nil))) (fun _ _ _ _ _ => pts_nil)
          (fun _ _ _ _ _ => pe_no)))))))) pss_nil)
    (pss_cons (ps_if (pt_val (xe_isi (K := K) (U := "dict") m1 m7 (by decide +kernel) (pv 1)))
      (pss_cons (ps_if (pw_or (pt_not (pt_val (xe_isi (K := K) (U := "dict") m1 m7 (by decide +kernel) (pv 0)))) (pw_or1 (pt_cmpR op_ne (pe_callB call_lenD (by rfl) m4 (by decide +kernel) (pa_cons (pv 0) pa_nil)) (pe_callB call_lenD (by rfl) m4 (by decide +kernel) (pa_cons (pv 1) pa_nil)) (nomark _)))).pt (pss_one (ps_ret pe_bl)) pss_nil)
      (pss_one (ps_ret (pe_lock (xe_all (K := K) m5 (xe_lc1 (tt := tYes) nSame (defScope sSame) 4 (pi_keys (pv 1)) (by decide +kernel) scSame.nd (.inr rfl) (fun _ _ _ _ _ => pts_nil) (fun _ _ _ _ _ => pe_no))))))) pss_nil)
    (pss_cons (ps_if (pw_or (pt_val (xe_isi (K := K) (U := "bool") m1 m8 (by decide +kernel) (pv 1))) (pw_or1 (pt_val (xe_isi (K := K) (U := "bool") m1 m8 (by decide +kernel) (pv 0))))).pt
      (pss_one (ps_ret (pe_and (xe_isi (K := K) (U := "bool") m1 m8 (by decide +kernel) (pv 1)) (pe_and (xe_isi (K := K) (U := "bool") m1 m8 (by decide +kernel) (pv 0)) (pe_one (xe_eq (K := K) hu (pv 0) (pv 1))))))) pss_nil)
    (pss_one (ps_ret (pe_and (pe_not (xe_isi3 (K := K) (U := "list") (U' := "tuple") (U2 := "dict") m1 m2 m3 m7 (by decide +kernel) (by decide +kernel) (by decide +kernel) (pv 0))) (pe_one (pe_cmpR (op_or (op_eqD (Nat.lt_of_succ_lt hu)) (op_eqI hO (hr.mono (by omega)))) (pv 0) (pv 1) (nomark _)))))))), ?_⟩
    rcases hx.either with hpl | ⟨n0, ss0, rfl⟩
    case inr =>
      refine tIf_use (b := false) (TR.eq (TR_tB (PR_isi2I T.cl (PV du) (by decide) (by decide))) rfl) hG fun H1 e1 => iteF (nxt ?_)
      refine tIf_use (b := false) (TR_tB (PR_isiI T.cl (PV du) (by decide))) (hG.trans e1) fun H2 e2 => iteF (nxt ?_)
      have e12 := e1.trans e2
      refine tIf_use (b := false) (TR.eq (TR_or (TR_tB (PR_isiI T.cl (PV du) (by decide))) fun _ => TR_tB (PR_isiI T.cl (PV dv) (by decide))) rfl) (hG.trans e12) fun H3 e3 => iteF (nxt ?_)
      dsimp only
      exact tRet_use (hG.trans (e12.trans e3)) (PR.eq (PR_andV (b := true) (c := true) (PR_notV (PR_isi3I T.cl (PV dv) (by decide) (by decide) (by decide))) fun _ => PR_op (RR2_r (RR2_eqOwn ⟨n0, ss0, n0, ss0, rfl, by simp⟩)) (PV dv) (PV du)) rfl) fun v' G' H' x dv' => kq v' G' H' ((Ext.more hG (e12.trans e3)).trans x) dv'
    refine tIf_use (TR_tB (PR_isi2 (PV du) (kitL a) (kitT a) hpl)) hG fun H1 e1 => ?_
    rw [isSeq_eq]
    cases hs : isSeq a with
    | true => exact (rel0 hx hs).elim
    | false =>
      refine iteF (nxt ?_)
      refine tIf_use (TR_tB (PR_isi (PV du) (kitD a) hpl)) (hG.trans e1) fun H2 e2 => ?_
      have e12 := e1.trans e2
      cases hd : isD a with
      | true =>
        obtain rfl : a = .dict [] := leaf_dict hx hs hd hpl
        refine iteT (tIf_use (b := false) (TR.eq (TR_or (TR_not (TR_tB (PR_isi (PV dv) (kitD _)))) fun _ => TR_test (PR_op (RR2_neI (i := 0) (j := 0)) (PR_CB RR_lenD (PRA_one (PV dv))) (PR_CB RR_lenD (PRA_one (PV du))))) rfl) (hG.trans e12) fun H3 e3 => iteF (nxt ?_))
        exact dict_all (hG.trans (e12.trans e3)) du fun v' G' H' x dv' => kq v' G' H' ((Ext.more hG (e12.trans e3)).trans x) dv'
      | false =>
        refine iteF (nxt ?_)
        have hsh := leaf_shaped hx hs hd
        refine tIf_use (TR_or (TR_tB (PR_isi (PV du) (kitBo a) hpl)) fun _ => TR_tB (PR_isi (PV dv) (kitBo a) hpl)) (hG.trans e12) fun H3 e3 => ?_
        have e123 := e12.trans e3
        cases hb : isB a with
        | true =>
          refine iteT (tRet_use (hG.trans e123) (PR.eq (PR_andV (PR_isi (PV du) (kitBo a) hpl) fun _ => PR_andV (PR_isi (PV dv) (kitBo a) hpl) fun _ => PR_op (RR2_eq hsh hsh) (PV dv) (PV du)) (by rw [hb, leaf_eqv hs hd]; rfl)) fun v' G' H' x dv' => kq v' G' H' ((Ext.more hG e123).trans x) dv')
        | false =>
          refine iteF (nxt (tRet_use (hG.trans e123) (PR.eq (PR_andV (PR_notV (PR_isi3 (PV dv) (kitL a) (kitT a) (kitD a) hpl)) fun _ => PR_op (RR2_l (RR2_eq hsh hsh)) (PV dv) (PV du)) ?_) fun v' G' H' x dv' => kq v' G' H' ((Ext.more hG e123).trans x) dv'))
          have e0 := isSeq_eq a
          rw [hs] at e0
          obtain ⟨h1, h2⟩ := Bool.or_eq_false_iff.mp e0
          rw [h1, h2, hd, leaf_eqv hs hd]; rfl
  | succ j =>
    have FS := FS j rfl
    refine ⟨_, pss_cons (ps_if (pt_val (xe_isi2 (K := K) (U := "list") (U' := "tuple") m1 m2 m3 (by decide +kernel) (by decide +kernel) (pv 1)))
      (pss_cons (ps_if (pw_or (pt_cmpR op_ne (xe_isi (K := K) (U := "list") m1 m2 (by decide +kernel) (pv 0)) (xe_isi (K := K) (U := "list") m1 m2 (by decide +kernel) (pv 1)) (nomark _)) (pw_or1 (pt_cmpR op_ne (xe_isi (K := K) (U := "tuple") m1 m3 (by decide +kernel) (pv 0)) (xe_isi (K := K) (U := "tuple") m1 m3 (by decide +kernel) (pv 1)) (nomark _)))).pt (pss_one (ps_ret pe_bl)) pss_nil)
      (pss_one (ps_ret (pe_and (pe_cmpR op_eq (xe_len (K := K) m4 (pv 0)) (xe_len (K := K) m4 (pv 1)) (nomark _)) (pe_one (xe_all (K := K) m5
        (pe_lc (own := [("_law_mine", 2), ("_law_theirs", 3)]) (g := gTup K 2 (gCons (gName 2) (gCons (gName 3) gNil))) (tt := tYes) rfl scSame.nd (pi_zipA rfl m6 (pa_cons (pv 0) (pa_cons (pv 1) pa_nil))) (blkOk_by (N := nSame) (sc := defScope sSame) (by decide +kernel))
          (fun _ _ _ _ _ => pg_tup rfl (pgs_cons (pg_name (i := 2) scSame.nd rfl (.inl rfl)) (pgs_cons (pg_name (i := 3) scSame.nd rfl (.inl rfl)) pgs_nil))) (fun _ _ _ _ _ => pts_nil)
          (fun _ _ _ _ _ => pe_fn FS hr (by rfl) pass0 (pa_cons (pv 2) (pa_cons (pv 3) pa_nil)))))))))) pss_nil)
    (pss_cons (ps_if (pt_val (xe_isi (K := K) (U := "dict") m1 m7 (by decide +kernel) (pv 1)))
      (pss_cons (ps_if (pw_or (pt_not (pt_val (xe_isi (K := K) (U := "dict") m1 m7 (by decide +kernel) (pv 0)))) (pw_or1 (pt_cmpR op_ne (pe_callB call_lenD (by rfl) m4 (by decide +kernel) (pa_cons (pv 0) pa_nil)) (pe_callB call_lenD (by rfl) m4 (by decide +kernel) (pa_cons (pv 1) pa_nil)) (nomark _)))).pt (pss_one (ps_ret pe_bl)) pss_nil)
      (pss_one (ps_ret (pe_lock (xe_all (K := K) m5 (xe_lc1 (tt := tYes) nSame (defScope sSame) 4 (pi_keys (pv 1)) (by decide +kernel) scSame.nd (.inr rfl) (fun _ _ _ _ _ => pts_nil) (fun _ _ _ _ _ => pe_no))))))) pss_nil)
    (pss_cons (ps_if (pw_or (pt_val (xe_isi (K := K) (U := "bool") m1 m8 (by decide +kernel) (pv 1))) (pw_or1 (pt_val (xe_isi (K := K) (U := "bool") m1 m8 (by decide +kernel) (pv 0))))).pt
      (pss_one (ps_ret (pe_and (xe_isi (K := K) (U := "bool") m1 m8 (by decide +kernel) (pv 1)) (pe_and (xe_isi (K := K) (U := "bool") m1 m8 (by decide +kernel) (pv 0)) (pe_one (xe_eq (K := K) hu (pv 0) (pv 1))))))) pss_nil)
    (pss_one (ps_ret (pe_and (pe_not (xe_isi3 (K := K) (U := "list") (U' := "tuple") (U2 := "dict") m1 m2 m3 m7 (by decide +kernel) (by decide +kernel) (by decide +kernel) (pv 0))) (pe_one (pe_cmpR (op_or (op_eqD (Nat.lt_of_succ_lt hu)) (op_eqI hO (hr.mono (by omega)))) (pv 0) (pv 1) (nomark _)))))))), ?_⟩
    rcases hx.either with hpl | ⟨n0, ss0, rfl⟩
    case inr =>
      refine tIf_use (b := false) (TR.eq (TR_tB (PR_isi2I T.cl (PV du) (by decide) (by decide))) rfl) hG fun H1 e1 => iteF (nxt ?_)
      refine tIf_use (b := false) (TR_tB (PR_isiI T.cl (PV du) (by decide))) (hG.trans e1) fun H2 e2 => iteF (nxt ?_)
      have e12 := e1.trans e2
      refine tIf_use (b := false) (TR.eq (TR_or (TR_tB (PR_isiI T.cl (PV du) (by decide))) fun _ => TR_tB (PR_isiI T.cl (PV dv) (by decide))) rfl) (hG.trans e12) fun H3 e3 => iteF (nxt ?_)
      dsimp only
      exact tRet_use (hG.trans (e12.trans e3)) (PR.eq (PR_andV (b := true) (c := true) (PR_notV (PR_isi3I T.cl (PV dv) (by decide) (by decide) (by decide))) fun _ => PR_op (RR2_r (RR2_eqOwn ⟨n0, ss0, n0, ss0, rfl, by simp⟩)) (PV dv) (PV du)) rfl) fun v' G' H' x dv' => kq v' G' H' ((Ext.more hG (e12.trans e3)).trans x) dv'
    refine tIf_use (TR_tB (PR_isi2 (PV du) (kitL a) (kitT a) hpl)) hG fun H1 e1 => ?_
    rw [isSeq_eq]
    cases hs : isSeq a with
    | true =>
      obtain ⟨hz, hit⟩ : (itemsD a).length ≤ 1000 ∧ ∀ x ∈ itemsD a, Rel C j x := by
        cases hx with
        | leaf h _ _ => rw [hs] at h; cases h
        | ins => cases hs
        | seq _ h1 h2 => exact ⟨h1, h2⟩
      have hde : a = .list (itemsD a) ∨ a = .tuple (itemsD a) := by
        cases a with
        | list ds => exact .inl rfl
        | tuple ds => exact .inr rfl
        | _ => simp [isSeq] at hs
      refine iteT (tIf_use (b := false) (TR.eq (TR_or (TR_test (PR_op RR2_neB (PR_isi (PV dv) (kitL a) hpl) (PR_isi (PV du) (kitL a) hpl))) fun _ => TR_test (PR_op RR2_neB (PR_isi (PV dv) (kitT a) hpl) (PR_isi (PV du) (kitT a) hpl))) (by simp)) (hG.trans e1) fun H2 e2 => iteF (nxt ?_))
      have e12 := e1.trans e2
      generalize hys : itemsD a = ys at hz hit hde
      have each : ∀ {σ : L2.St} {G1 : Hp} {wi : TI}, WR wi σ G1 (zipD ys ys) → (∀ v u, wipe (((wipe σ [2, 3]).set 2 (some v)).set 3 (some u)) [2, 3] = wipe σ [2, 3]) → (∀ v u, (((wipe σ [2, 3]).set 2 (some v)).set 3 (some u))[2]? = some (some v) ∧ (((wipe σ [2, 3]).set 2 (some v)).set 3 (some u))[3]? = some (some u)) →
          PR (tCB (rAll K) (tCons (tLc wi (gTup K 2 (gCons (gName 2) (gCons (gName 3) gNil))) tYes (tCall (spP (DSame C j)) [] E0 (tCons (tVar 2) (tCons (tVar 3) tNil))) [2, 3]) tNil)) σ G1 (.bool true) := fun {σ G1 wi} hw h1 h2 => by
        refine PR.eq (PR_all (bs := ys) (q := fun _ => true) (PR_map2 (enc := fun x => .tuple [x, x]) (e1 := id) (e2 := id) (fun _ _ => rfl) (by rw [← zipD_self]; exact hw) h1 (fun G2 x v u hg hx2 dv du => ?_) (by omega))) (by rw [List.all_eq_true.mpr fun _ _ => rfl])
        exact PR_call (PRA_two (PR_var (h2 v u).1 dv) (PR_var (h2 v u).2 du)) ⟨x, rfl, rfl, hit x hx2⟩
      rcases hde with rfl | rfl
      · exact tRet_use (hG.trans e12) (PR.eq (PR_andV (b := true) (c := true) (PR.eq (PR_op RR2_eqI (PR_CB RR_lenL (PRA_one (PV dv))) (PR_CB RR_lenL (PRA_one (PV du)))) (by simp)) fun _ => each (WR_zipL (PRA_two (PV dv) (PV du))) (fun _ _ => rfl) (fun _ _ => ⟨rfl, rfl⟩)) rfl) fun v' G' H' x dv' => kq v' G' H' ((Ext.more hG e12).trans x) dv'
      · exact tRet_use (hG.trans e12) (PR.eq (PR_andV (b := true) (c := true) (PR.eq (PR_op RR2_eqI (PR_CB RR_lenT (PRA_one (PV dv))) (PR_CB RR_lenT (PRA_one (PV du)))) (by simp)) fun _ => each (WR_zipT (PRA_two (PV dv) (PV du))) (fun _ _ => rfl) (fun _ _ => ⟨rfl, rfl⟩)) rfl) fun v' G' H' x dv' => kq v' G' H' ((Ext.more hG e12).trans x) dv'
    | false =>
      refine iteF (nxt ?_)
      refine tIf_use (TR_tB (PR_isi (PV du) (kitD a) hpl)) (hG.trans e1) fun H2 e2 => ?_
      have e12 := e1.trans e2
      cases hd : isD a with
      | true =>
        obtain rfl : a = .dict [] := leaf_dict hx hs hd hpl
        refine iteT (tIf_use (b := false) (TR.eq (TR_or (TR_not (TR_tB (PR_isi (PV dv) (kitD _)))) fun _ => TR_test (PR_op (RR2_neI (i := 0) (j := 0)) (PR_CB RR_lenD (PRA_one (PV dv))) (PR_CB RR_lenD (PRA_one (PV du))))) rfl) (hG.trans e12) fun H3 e3 => iteF (nxt ?_))
        exact dict_all (hG.trans (e12.trans e3)) du fun v' G' H' x dv' => kq v' G' H' ((Ext.more hG (e12.trans e3)).trans x) dv'
      | false =>
        refine iteF (nxt ?_)
        have hsh := leaf_shaped hx hs hd
        refine tIf_use (TR_or (TR_tB (PR_isi (PV du) (kitBo a) hpl)) fun _ => TR_tB (PR_isi (PV dv) (kitBo a) hpl)) (hG.trans e12) fun H3 e3 => ?_
        have e123 := e12.trans e3
        cases hb : isB a with
        | true =>
          refine iteT (tRet_use (hG.trans e123) (PR.eq (PR_andV (PR_isi (PV du) (kitBo a) hpl) fun _ => PR_andV (PR_isi (PV dv) (kitBo a) hpl) fun _ => PR_op (RR2_eq hsh hsh) (PV dv) (PV du)) (by rw [hb, leaf_eqv hs hd]; rfl)) fun v' G' H' x dv' => kq v' G' H' ((Ext.more hG e123).trans x) dv')
        | false =>
          refine iteF (nxt (tRet_use (hG.trans e123) (PR.eq (PR_andV (PR_notV (PR_isi3 (PV dv) (kitL a) (kitT a) (kitD a) hpl)) fun _ => PR_op (RR2_l (RR2_eq hsh hsh)) (PV dv) (PV du)) ?_) fun v' G' H' x dv' => kq v' G' H' ((Ext.more hG e123).trans x) dv'))
          have e0 := isSeq_eq a
          rw [hs] at e0
          obtain ⟨h1, h2⟩ := Bool.or_eq_false_iff.mp e0
          rw [h1, h2, hd, leaf_eqv hs hd]; rfl
theorem fn_same {C : Addr} (T : TProto K mg C) (hE : ∃ f fd, PySem.W.findIn K (.ref C) "__eq__" = some (some (.ref f)) ∧ PySem.W.isFn K (.ref f) = true ∧ Binds K fd ["self", "other"] [] ∧ FnOk P w K mg base CX0 1 f fd ["self", "other"] (spP (DEq C))) (D : Df K mg "_law_same" sSame) (m1 : mg "isinstance" = none) (m2 : mg "list" = none) (m3 : mg "tuple" = none) (m4 : mg "len" = none) (m5 : mg "all" = none) (m6 : mg "zip" = none) (m7 : mg "dict" = none) (m8 : mg "bool" = none) :
    ∀ k : Nat, Fn P w K mg base CX0 "_law_same" (k + 2) 2 (spP (DSame C k))
  | 0 => same_body T hE 0 D (fun j h => by omega) m1 m2 m3 m4 m5 m6 m7 m8
  | k + 1 => same_body T hE (k + 1) D (fun j h => by
      have e : j = k := by omega
      subst e
      exact fn_same T hE D m1 m2 m3 m4 m5 m6 m7 m8 j) m1 m2 m3 m4 m5 m6 m7 m8
end
end K50
set_option Elab.async false
set_option linter.all false
set_option maxRecDepth 100000
set_option maxHeartbeats 4000000
/-! K50p: _law_spoilt, _law_is_number, _law_room, _law_stop, _law_put_in -/
namespace K50
open PySem PySem.Spec PyProof.Rows L2 PD StX RZ
abbrev sSpoilt : Stmt := top 50
abbrev sNumL : Stmt := top 58
abbrev sRoomL : Stmt := top 52
section
variable {P : Program} {w : World} {K : PySem.W.Frag} {mg : Str → Option Value} {base : Heap}
/-! ### _law_spoilt -/
abbrev nSpoilt : List Str := ["_law_thing", "_law_part"]
theorem scSpoilt : FnScope nSpoilt ["_law_thing"] (defScope sSpoilt) := ⟨rfl, rfl, rfl, by decide +kernel, rfl, by decide +kernel, by decide +kernel⟩
/-- tuples within tuples, at most k deep -/
inductive Tup : Nat → PyData → Prop
  | leaf {k : Nat} {d : PyData} : isSeq d = false → PD.plain d = true → Tup k d
  | tup {k : Nat} {ds : List PyData} : (∀ d ∈ ds, Tup k d) → Tup (k + 1) (.tuple ds)
/-- nothing is changed of these; a list of these gets longer -/
def spSpoil (k : Nat) : Sp := fun vs H Q _ => (∃ G v d, vs = [v] ∧ Same G H ∧ Dq G v d ∧ Tup k d ∧ ∀ H', Same H H' → Q .non H') ∨
  (∃ G a xs ds, vs = [.ref a] ∧ Same G H ∧ G a = none ∧ H a = some (.lst xs) ∧ DqAll G xs ds ∧ (∃ j, j + 1 = k ∧ ∀ d ∈ ds, Tup j d) ∧ xs.length < sizeLine ∧ ∀ H', (∀ b o, b ≠ a → H b = some o → H' b = some o) → H' a = some (.lst (xs ++ [.str "late"])) → Q .non H')
theorem spoil_len {k : Nat} : ∀ vs H Q E, spSpoil k vs H Q E → vs.length = 1 := by
  rintro vs H Q E (⟨G, v, d, rfl, _⟩ | ⟨G, a, xs, ds, rfl, _⟩) <;> rfl
theorem spoil_body (k : Nat) (D : Df K mg "_law_spoilt" sSpoilt) (FS : ∀ j, j + 1 = k → Fn P w K mg base CX0 "_law_spoilt" (j + 1) 1 (spSpoil j)) (m1 : mg "isinstance" = none) (m2 : mg "list" = none) (m3 : mg "tuple" = none) : Fn P w K mg base CX0 "_law_spoilt" (k + 1) 1 (spSpoil k) := by
  refine D.fn scSpoilt spoil_len rfl (fun _ _ _ _ _ _ us hl => match us, hl with | [_], _ => rfl) fun f cdv A outer s H vs Q E hr hsp => ?_
  cases k with
  | zero =>
    refine ⟨_, pss_one (ps_if (pt_val (xe_isi2 (K := K) (U := "list") (U' := "tuple") m1 m2 m3 (by decide +kernel) (by decide +kernel) (pv 0)))
      (pss_cons ps_never (pss_one (ps_if (pt_val (xe_isi (K := K) (U := "list") m1 m2 (by decide +kernel) (pv 0))) (pss_one (xs_append (pv 0) pe_str)) pss_nil))) pss_nil), ?_⟩
    rcases hsp with ⟨G, v, d, rfl, hG, dv, ht, k⟩ | ⟨G, a, xs, ds, rfl, hG, ga, ha, dx, hd, hl, k⟩
    · cases ht with
      | leaf h1 h2 =>
        refine tIf_use (TR_tB (PR_isi2 (PV dv) (kitL d) (kitT d) h2)) hG fun H1 e1 => ?_
        rw [isSeq_eq, h1]
        exact iteF (k H1 e1)
    · obtain ⟨j, hj, _⟩ := hd
      cases hj
  | succ j =>
    have FS := FS j rfl
    refine ⟨_, pss_one (ps_if (pt_val (xe_isi2 (K := K) (U := "list") (U' := "tuple") m1 m2 m3 (by decide +kernel) (by decide +kernel) (pv 0)))
      (pss_cons (ps_for PassesOwn.never rfl (xi_seq (K := K) (pv 0)) (pg_name (i := 1) scSpoilt.nd rfl (.inl rfl)) (pss_one (ps_expr (pe_fn FS hr (by rfl) pass0 (pa_cons (pv 1) pa_nil)))))
      (pss_one (ps_if (pt_val (xe_isi (K := K) (U := "list") m1 m2 (by decide +kernel) (pv 0))) (pss_one (xs_append (pv 0) pe_str)) pss_nil))) pss_nil), ?_⟩
    -- the loop changes nothing
    have loop : ∀ {v : V} {d : PyData} {ds : List PyData} {G H1 : Hp} {D : Ends}, Same G H1 → Dq G v d → Row d ds → (∀ d ∈ ds, Tup j d) → (∀ x1 H2, Same H1 H2 → D.nx [some v, x1] H2) → tFor (iSeq K (tVar 0)) (gName 1) (tDrop (tCall (spSpoil j) [] E0 (tCons (tVar 1) tNil))) D [some v, none] H1 := fun {v d ds G H1 D} hG dv hr ht hk => by
      refine tFor_use (ds := ds) hG (by have := WR_seq (K := K) (PV (σ := [some v, none]) (i := 0) dv) hr.seq; rw [hr.items] at this; exact this) fun J G2 H2 e2 dw => ?_
      refine for_nm dw (fun i σ H' => ∃ G' x1, Same G2 G' ∧ Same G' H' ∧ Same H1 H' ∧ σ = [some v, x1]) ⟨G2, none, Same.refl _, e2.gh, e2.hh, rfl⟩ ?_ ?_ ?_
      · rintro i σ H' _ ⟨G', x1, s1, s2, _⟩
        exact s1.trans s2
      · rintro i d x σ H3 H3' hd ⟨G3, x1, s1, s2, s3, rfl⟩ e3 y
        obtain ⟨G4, e4, dx⟩ := y G3 s1 s2
        exact ⟨x, rfl, .inl ⟨G4, x, d, rfl, e4.gh, dx, ht d (List.mem_of_getElem? hd), fun H' e => ⟨G4, _, s1.trans e4.gg, e4.gh.trans e, (s3.trans e4.hh).trans e, rfl⟩⟩⟩
      · rintro σ H3 ⟨G3, x1, s1, s2, s3, rfl⟩
        exact hk x1 H3 s3
    rcases hsp with ⟨G, v, d, rfl, hG, dv, ht, k⟩ | ⟨G, a, xs, ds, rfl, hG, ga, ha, dx, ⟨j', hj, hd⟩, hl, k⟩
    · cases ht with
      | leaf h1 h2 =>
        refine tIf_use (TR_tB (PR_isi2 (PV dv) (kitL d) (kitT d) h2)) hG fun H1 e1 => ?_
        rw [isSeq_eq, h1]
        exact iteF (k H1 e1)
      | @tup _ ds ht =>
        refine tIf_use (b := true) (TR_tB (PR_isi2 (PV dv) (kitL _) (kitT _))) hG fun H1 e1 => iteT ?_
        refine loop (hG.trans e1) dv (.inr rfl) ht fun x1 H2 e2 => ?_
        refine tIf_use (b := false) (TR_tB (PR_isi (PV (i := 0) dv) (kitL _))) (hG.trans (e1.trans e2)) fun H3 e3 => iteF ?_
        exact k H3 ((e1.trans e2).trans e3)
    · have hj : j' = j := by omega
      subst hj
      have hG2 : Same (upd G a (.lst xs)) H := fun b o q => by
        by_cases z : b = a
        · subst z; rw [upd_same] at q; rw [ha]; exact q
        · rw [upd_ne z] at q; exact hG _ _ q
      have dv : Dq (upd G a (.lst xs)) (.ref a) (.list ds) := .lst upd_same (dx.up (same_new ga))
      refine tIf_use (b := true) (TR_tB (PR_isi2 (PV dv) (kitL _) (kitT _))) hG2 fun H1 e1 => iteT ?_
      refine loop (hG2.trans e1) dv (.inl rfl) hd fun x1 H2 e2 => ?_
      refine tIf_use (b := true) (TR_tB (PR_isi (PV (i := 0) dv) (kitL _))) (hG2.trans (e1.trans e2)) fun H3 e3 => iteT ?_
      have e123 := (e1.trans e2).trans e3
      have h3 : H3 a = some (.lst xs) := e123 _ _ ha
      refine ⟨_, rfl, .inl ⟨rfl, _, SqL.of h3⟩, a, xs, .str "late", rfl, rfl, h3, hl, ?_⟩
      exact k _ (fun b o ne q => by rw [upd_ne ne]; exact e123 _ _ q) upd_same
theorem fn_spoilt (D : Df K mg "_law_spoilt" sSpoilt) (m1 : mg "isinstance" = none) (m2 : mg "list" = none) (m3 : mg "tuple" = none) : ∀ k : Nat, Fn P w K mg base CX0 "_law_spoilt" (k + 1) 1 (spSpoil k)
  | 0 => spoil_body 0 D (fun j h => by omega) m1 m2 m3
  | k + 1 => spoil_body (k + 1) D (fun j h => by
      have e : j = k := by omega
      subst e
      exact fn_spoilt D m1 m2 m3 j) m1 m2 m3
end
end K50
set_option Elab.async false
set_option linter.all false
set_option maxRecDepth 100000
set_option maxHeartbeats 4000000
/-! K50q: _law_is_number, _law_room, _law_stop, _law_put_in -/
namespace K50
open PySem PySem.Spec PyProof.Rows L2 PD StX RZ
abbrev sStopL : Stmt := top 57
abbrev sPutL : Stmt := top 54
section
variable {P : Program} {w : World} {K : PySem.W.Frag} {mg : Str → Option Value} {base : Heap}
/-! ### _law_is_number -/
theorem scNumL : FnScope ["_law_thing"] ["_law_thing"] (defScope sNumL) := ⟨rfl, rfl, rfl, by decide +kernel, rfl, by decide +kernel, by decide +kernel⟩
abbrev FNumL (P : Program) (w : World) (K : PySem.W.Frag) (mg : Str → Option Value) (base : Heap) : Prop := Fn P w K mg base CX0 "_law_is_number" 1 1 (spP (fArg (fun a => .bool (numD a)) Pln))
theorem fn_numL (D : Df K mg "_law_is_number" sNumL) (m1 : mg "isinstance" = none) (m2 : mg "int" = none) (m3 : mg "bool" = none) : FNumL P w K mg base := by
  refine D.pure scNumL (by rintro ds d ⟨a, rfl, _⟩; rfl) rfl (fun _ _ _ _ _ _ us hl => match us, hl with | [_], _ => rfl) fun f cdv A outer s H E G vs ds d Q hr hG hv hD k => ?_
  obtain ⟨a, rfl, rfl, hp⟩ := hD
  obtain ⟨v, rfl, da⟩ := hv.one
  refine ⟨_, pss_one (ps_ret (pe_and (xe_isi (K := K) (U := "int") m1 m2 (by decide +kernel) (pv 0)) (pe_and (pe_not (xe_isi (K := K) (U := "bool") m1 m3 (by decide +kernel) (pv 0))) (pe_one (pe_cmpR op_ge (pv 0) pe_int (nomark _)))))), ?_⟩
  refine (PR_andV (c := numD a) (PR_isi (PV (σ := [some v]) (i := 0) da) (kitI a) hp) fun h1 => (PR_andV (c := numD a) (PR_notV (PR_isi (PV (σ := [some v]) (i := 0) da) (kitBo a) hp)) fun h2 => ?_).eq ?_).eq ?_ H Q hG k
  · cases a with
    | int i => exact PR_op RR2_geI (PV (σ := [some v]) (i := 0) da) PR_int
    | bool b => cases h2
    | _ => cases h1
  · cases a <;> simp [isB, numD]
  · cases a <;> simp [isI, numD]
/-! ### _law_room -/
abbrev nRoomL : List Str := ["_law_steps", "_law_index", "_law_most"]
theorem scRoomL : FnScope nRoomL ["_law_steps", "_law_index"] (defScope sRoomL) := ⟨rfl, rfl, rfl, by decide +kernel, rfl, by decide +kernel, by decide +kernel⟩
abbrev FRoomL (P : Program) (w : World) (K : PySem.W.Frag) (mg : Str → Option Value) (base : Heap) : Prop := Fn P w K mg base CX0 "_law_room" 1 2 (spP DRoom)
theorem fn_roomL (D : Df K mg "_law_room" sRoomL) (m1 : mg "len" = none) (m2 : mg "min" = none) : FRoomL P w K mg base := by
  refine D.pure scRoomL (by rintro ds d ⟨ss, i, rfl, _⟩; rfl) rfl (fun _ _ _ _ _ _ us hl => match us, hl with | [_, _], _ => rfl) fun f cdv A outer s0 H E G vs ds d Q hr hG hv hD k => ?_
  obtain ⟨ss, i, rfl, rfl, hi⟩ := hD
  obtain ⟨v, u, rfl, dv, du⟩ := hv.two
  refine ⟨_, pss_cons (ps_set (i := 2) scRoomL.nd rfl (.inl rfl) (xe_len (K := K) m1 (xe_ixT (K := K) (xe_ixL (K := K) (pv 0) (pv 1)) pe_int)))
    (pss_one (ps_ret (pe_ifExp (pt_cmpR op_lt (pe_op op_add (pv 1) pe_int) (xe_len (K := K) m1 (pv 0)) (nomark _)) (pe_callB (call_min2 rfl) rfl m2 (by decide +kernel) (pa_cons (pv 2) (pa_cons (xe_len (K := K) m1 (xe_ixT (K := K) (xe_ixL (K := K) (pv 0) (pe_op op_add (pv 1) pe_int)) pe_int)) pa_nil))) (pv 2)))), ?_⟩
  refine tSet_use hG (lenLs (PR_op (RR2_ixT (j := 2) rfl) (PR_stepAt (PV dv) (PV du) hi) PR_int)) fun v2 G1 H1 e1 d2 => ?_
  have p1 : ∀ {σ : L2.St}, σ[1]? = some (some u) → PR (tOp (rI0 fun i j => .int (i + j)) (tVar 1) (tC (.int 1))) σ G1 (.int ((i + 1 : Nat) : Int)) := fun h => (PR_op RR2_addI (PR_var h (du.up e1.gg)) PR_int).eq (by congr 1)
  refine tRet_use e1.gh (PR_if (TR.eq (TR_test (PR_op RR2_ltI (p1 rfl) (lenSS (PV (dv.up e1.gg))))) (c := decide (i + 1 < ss.length)) (decide_eq_decide.mpr (by omega))) (fun h => ?_) (fun h => ?_)) fun v' G' H' x dv => k v' G' H' (e1.trans x) dv
  · have h := of_decide_eq_true h
    refine (PR_CB RR_min2 (PRA_two (PV d2) (lenLs (PR_op (RR2_ixT (j := 1) rfl) (PR_stepAt (PV (dv.up e1.gg)) (p1 rfl) h) PR_int)))).eq ?_
    rw [roomS, if_pos h]
    congr 1
    omega
  · have h := of_decide_eq_false h
    refine (PV d2).eq ?_
    rw [roomS, if_neg h]
/-! ### _law_stop -/
abbrev nStopL : List Str := ["_law_steps", "_law_message", "_law_index", "_law_part", "_law_takes", "_law_puts"]
theorem scStopL : FnScope nStopL ["_law_steps"] (defScope sStopL) := ⟨rfl, rfl, rfl, by decide +kernel, rfl, by decide +kernel, by decide +kernel⟩
def DStopL (ds : List PyData) (d : PyData) : Prop := ∃ ss, ds = [encSS ss] ∧ d = optD (stopFrom 0 [] ss) ∧ Short ss
abbrev FStopL (P : Program) (w : World) (K : PySem.W.Frag) (mg : Str → Option Value) (base : Heap) : Prop := Fn P w K mg base CX0 "_law_stop" 1 1 (spP DStopL)
theorem fn_stopL (D : Df K mg "_law_stop" sStopL) (m1 : mg "len" = none) (m2 : mg "enumerate" = none) : FStopL P w K mg base := by
  refine D.pure scStopL (by rintro ds d ⟨ss, rfl, _⟩; rfl) rfl (fun _ _ _ _ _ _ us hl => match us, hl with | [_], _ => rfl) fun f cdv A outer s0 H E G vs ds d Q hr hG hv hD k => ?_
  obtain ⟨ss, rfl, rfl, hlen, hsh⟩ := hD
  obtain ⟨v, rfl, da⟩ := hv.one
  have hu := hr.u65
  have hsz : sizeLine = 16777216 := sizeLine_eq
  refine ⟨_, pss_cons (ps_set (i := 1) scStopL.nd rfl (.inl rfl) (pe_lst pa_nil))
    (pss_cons (ps_for PassesOwn.never rfl (pi_enumS (K := K) m2 (pa_cons (pv 0) pa_nil)) (pg_tup rfl (pgs_cons (pg_name (i := 2) scStopL.nd rfl (.inl rfl)) (pgs_cons (pg3 (K := K) rfl (pg_name (i := 3) scStopL.nd rfl (.inl rfl)) (pg_name (i := 4) scStopL.nd rfl (.inl rfl)) (pg_name (i := 5) scStopL.nd rfl (.inl rfl))) pgs_nil)))
      (pss_cons (ps_if (xt_ne (K := K) hu (xe_slTo (K := K) (pv 1) (xe_len (K := K) m1 (pv 4))) (pv 4)) (pss_one (ps_ret (pv 2))) pss_nil)
      (pss_one (ps_set (i := 1) scStopL.nd rfl (.inl rfl) (pe_op op_cat (pv 5) (xe_slFrom (K := K) (pv 1) (xe_len (K := K) m1 (pv 4))))))))
    (pss_one (ps_ret pe_non))), ?_⟩
  refine tSet_use hG (PR_lst PRA_nil (by show 0 ≤ sizeLine; omega)) fun vl G1 H1 e1 dl => ?_
  have h0 := (PV (σ := [some v, some vl, none, none, none, none]) (i := 0) (da.up e1.gg))
  refine tFor_use e1.gh (WR_enumS (K := K) (ds := ss.map encS) (PRA_one h0) rfl) fun J G2 H2 e2 dw => ?_
  have e12 := e1.trans e2
  refine for_pt dw (fun j σ H' => ∃ G' vm x1 x2 x3 x4 msg, Ext G2 H2 G' H' ∧ σ = [some v, some vm, x1, x2, x3, x4] ∧ Dq G' vm (.list (msg.map encL)) ∧ msg.length ≤ j * 1000 ∧ stopFrom j msg (ss.drop j) = stopFrom 0 [] ss) ⟨G2, vl, none, none, none, none, [], .refl e2.gh, rfl, dl.up e2.gg, by simp, rfl⟩ ?_ ?_ ?_
  · rintro j σ H' hj ⟨G', vm, x1, x2, x3, x4, msg, x, _⟩
    exact x.gg.trans x.gh
  · rintro j d x σ H3 H3' hd ⟨G3, vm, x1, x2, x3, x4, msg, e3, rfl, dm, hml, hw⟩ s3 y
    obtain ⟨e, he, rfl⟩ := enumD_at _ hd
    rw [List.getElem?_map] at he
    obtain ⟨s, hs1, rfl⟩ : ∃ s, ss[j]? = some s ∧ encS s = e := by
      cases q : ss[j]? with
      | none => rw [q] at he; cases he
      | some s => rw [q] at he; exact ⟨s, rfl, Option.some.inj he⟩
    obtain ⟨G4, e4, dx⟩ := y G3 e3.gg e3.gh
    have e34 := e12.trans (e3.trans e4)
    refine Gp_tup (Gps_cons Gp_nm fun σ1 => Gps_cons (gp3 (Or.inr rfl)) fun σ2 => Gps_nil) rfl x G4 H3' _ dx e4.gh fun σ' ⟨σ1, ⟨u, du, e1'⟩, σ2, ⟨u3, u4, u5, d3, d4, d5, e2'⟩, e3'⟩ => ?_
    subst e3' e2' e1'
    have hjl : j < ss.length := (List.getElem?_eq_some_iff.mp hs1).1
    have hdrop : ss.drop j = s :: ss.drop (j + 1) := by
      rw [List.drop_eq_getElem_cons hjl]
      congr 1
      exact Option.some.inj ((List.getElem?_eq_getElem hjl).symm.trans hs1)
    rw [hdrop, stopFrom] at hw
    obtain ⟨ht1, ht2⟩ := hsh s (List.mem_of_getElem? hs1)
    have dm4 := dm.up e4.gg
    have nl : ∀ {σ : L2.St} {G1 : Hp}, Same G4 G1 → σ[4]? = some (some u4) → PR (tCB (rLenQ K) (tCons (tVar 4) tNil)) σ G1 (.int s.tk.length) := fun g h => (PR_len (PR_var h (d4.up g)) rfl).eq (by simp [itemsD])
    refine tIf_use (b := decide (msg.take s.tk.length ≠ s.tk)) (TR.eq (TR_test (PR_op (RR2_ne ((lays_sh (msg.take s.tk.length)).shaped (by decide)) ((lays_sh s.tk).shaped (by decide))) ((PR_slTo (PV dm4) (nl (Same.refl _) rfl)).eq (by rw [List.map_take])) (PV d4))) (eqv_of _ _)) e4.gh fun H5 e5 => ?_
    by_cases hb : msg.take s.tk.length = s.tk
    · rw [if_pos hb] at hw
      rw [decide_eq_false (by simp [hb])]
      refine iteF (nxt ?_)
      dsimp only
      refine tSet_use (d := .list ((s.pt ++ msg.drop s.tk.length).map encL)) (e4.gh.trans e5) ?_ fun v6 G6 H6 e6 d6 => ?_
      · refine (PR_op (RR2_cat ?_) (PV d5) (PR_slFrom (PV dm4) (nl (Same.refl _) rfl))).eq ?_
        · simp only [List.length_append, List.length_map, List.length_drop, List.length_nil]
          have : j * 1000 ≤ 1000 * 1000 := Nat.mul_le_mul_right _ (by omega)
          omega
        · rw [List.map_append, List.map_drop]
      · refine ⟨G6, v6, some u, some u3, some u4, some u5, _, (e3.trans e4).trans ((Ext.more e4.gh e5).trans e6), rfl, d6, ?_, hw⟩
        simp only [List.length_append, List.length_drop]
        omega
    · rw [if_neg hb] at hw
      rw [decide_eq_true (by exact hb)]
      refine iteT (tRet_use (e4.gh.trans e5) (PV du) fun v' G' H' x dv => k v' G' H' ((e34.trans (Ext.more e4.gh e5)).trans x) ?_)
      rw [← hw]; exact dv
  · rintro σ H3 ⟨G3, vm, x1, x2, x3, x4, msg, e3, rfl, dm, hml, hw⟩
    rw [enumD_len, List.length_map, List.drop_length] at hw
    dsimp only
    refine tRet_use e3.gh PR_non fun v' G' H' x dv => k v' G' H' ((e12.trans e3).trans x) ?_
    rw [← hw]; exact dv
end
end K50
set_option Elab.async false
set_option linter.all false
set_option maxRecDepth 100000
set_option maxHeartbeats 4000000
/-! K50r: _law_put_in, _law_are_steps -/
namespace K50
open PySem PySem.Spec PyProof.Rows L2 PD StX RZ
abbrev sAreL : Stmt := top 53
section
variable {P : Program} {w : World} {K : PySem.W.Frag} {mg : Str → Option Value} {base : Heap}
/-! ### _law_put_in -/
abbrev nPutL : List Str := ["_law_layers", "_law_mend", "_law_word", "_law_index", "_law_place", "_law_more", "_law_rest"]
theorem scPutL : FnScope nPutL ["_law_layers", "_law_mend"] (defScope sPutL) := ⟨rfl, rfl, rfl, by decide +kernel, rfl, by decide +kernel, by decide +kernel⟩
abbrev FPutL (P : Program) (w : World) (K : PySem.W.Frag) (mg : Str → Option Value) (base : Heap) : Prop := Fn P w K mg base CX0 "_law_put_in" 1 2 (spP DWithL)
theorem fn_putL (D : Df K mg "_law_put_in" sPutL) : FPutL P w K mg base := by
  refine D.pure scPutL (by rintro ds d ⟨ls, m, rfl, _⟩; rfl) rfl (fun _ _ _ _ _ _ us hl => match us, hl with | [_, _], _ => rfl) fun f cdv A outer s0 H E G vs ds d Q hr hG hv hD k => ?_
  obtain ⟨ls, m, rfl, rfl, hin, hz⟩ := hD
  obtain ⟨v, u, rfl, dv, du⟩ := hv.two
  have hsz : sizeLine = 16777216 := sizeLine_eq
  refine ⟨_, pss_cons (ps_asg (pv 1) (pg4 (K := K) rfl (pg_name (i := 2) scPutL.nd rfl (.inl rfl)) (pg_name (i := 3) scPutL.nd rfl (.inl rfl)) (pg_name (i := 4) scPutL.nd rfl (.inl rfl)) (pg_name (i := 5) scPutL.nd rfl (.inl rfl))))
    (pss_cons (ps_if (pt_cmpR op_eq (pv 2) pe_str (nomark _)) (pss_one (ps_ret (pe_op op_cat (pe_op op_cat (xe_slTo (K := K) (pv 0) (pv 4)) (pe_lst (pa_cons (pv 5) pa_nil))) (xe_slFrom (K := K) (pv 0) (pv 4))))) pss_nil)
    (pss_cons (ps_set (i := 6) scPutL.nd rfl (.inl rfl) (pe_op op_cat (xe_slTo (K := K) (pv 0) (pv 4)) (xe_slFrom (K := K) (pv 0) (pe_op op_add (pv 4) pe_int))))
    (pss_one (ps_ret (pe_op op_cat (pe_op op_cat (xe_slTo (K := K) (pv 6) (pv 5)) (pe_lst (pa_cons (xe_ixL (K := K) (pv 0) (pv 4)) pa_nil))) (xe_slFrom (K := K) (pv 6) (pv 5))))))), ?_⟩
  cases m with
  | add i p l =>
    refine tSetP_use hG (PV du) (gp4 (Or.inr rfl)) fun σ' G2 H2 e2 ⟨u2, u3, u4, u5, d2, d3, d4, d5, eσ⟩ => ?_
    subst eσ
    refine tIf_use (b := true) (TR.eq (TR_test (PR_op RR2_eqS (PV d2) PR_str)) (by decide +kernel)) e2.gh fun H3 e3 => iteT ?_
    refine tRet_use (e2.gh.trans e3) ((PR_op (RR2_cat ?_) (PR_op (RR2_cat ?_) (PR_slTo (PV (dv.up e2.gg)) (PV d4)) (PR_lst (PRA_one (PV d5)) (by show 1 ≤ sizeLine; omega))) (PR_slFrom (PV (dv.up e2.gg)) (PV d4))).eq ?_) fun v' G' H' x dv' => k v' G' H' ((e2.trans (Ext.more e2.gh e3)).trans x) dv'
    · simp; omega
    · simp; omega
    · simp [withL, List.map_take, List.map_drop]
  | shift i p t =>
    have hp : p < ls.length := hin
    refine tSetP_use hG (PV du) (gp4 (Or.inr rfl)) fun σ' G2 H2 e2 ⟨u2, u3, u4, u5, d2, d3, d4, d5, eσ⟩ => ?_
    subst eσ
    refine tIf_use (b := false) (TR.eq (TR_test (PR_op RR2_eqS (PV d2) PR_str)) (by decide +kernel)) e2.gh fun H3 e3 => iteF (nxt ?_)
    dsimp only
    have dv2 := dv.up e2.gg
    refine tSet_use (d := .list ((ls.take p ++ ls.drop (p + 1)).map encL)) (e2.gh.trans e3) ((PR_op (RR2_cat ?_) (PR_slTo (PV dv2) (PV d4)) (PR_slFrom (n := p + 1) (PV dv2) ((PR_op RR2_addI (PV d4) PR_int).eq (by congr 1)))).eq ?_) fun v6 G6 H6 e6 d6 => ?_
    · simp; omega
    · simp [List.map_take, List.map_drop]
    have e26 := (e2.trans (Ext.more e2.gh e3)).trans e6
    refine tRet_use e6.gh ((PR_op (RR2_cat ?_) (PR_op (RR2_cat ?_) (PR_slTo (PV d6) (PV (d5.up e6.gg))) (PR_lst (PRA_one (d := encL (ls.getD p (.wo, 0))) (PR_op (RR2_ixL (j := p) ?_) (PV (dv2.up e6.gg)) (PV (d4.up e6.gg)))) (by show 1 ≤ sizeLine; omega))) (PR_slFrom (PV d6) (PV (d5.up e6.gg)))).eq ?_) fun v' G' H' x dv' => k v' G' H' (e26.trans x) dv'
    · simp; omega
    · simp; omega
    · rw [List.getElem?_map, List.getD_eq_getElem?_getD, List.getElem?_eq_getElem hp]; rfl
    · simp [withL, List.map_take, List.map_drop]
/-! ### _law_are_steps -/
abbrev nAreL : List Str := ["_law_steps", "_law_index", "_law_part", "_law_takes", "_law_puts"]
theorem scAreL : FnScope nAreL ["_law_steps"] (defScope sAreL) := ⟨rfl, rfl, rfl, by decide +kernel, rfl, by decide +kernel, by decide +kernel⟩
def DAreL (ds : List PyData) (d : PyData) : Prop := ∃ ss, ds = [encSS ss] ∧ d = .bool (decide (wrongFrom 0 ss = none)) ∧ ∀ s ∈ ss, FormS s
abbrev FAreL (P : Program) (w : World) (K : PySem.W.Frag) (mg : Str → Option Value) (base : Heap) : Prop := Fn P w K mg base CX0 "_law_are_steps" 1 1 (spP DAreL)
theorem hasD_lays (ls : List Lay) (l : Lay) : ((ls.map encL).any fun z => PyData.eqv z (encL l)) = hasL ls l := by
  rw [List.any_map, hasL]
  congr 1
  funext m
  exact eqv_lay m l
theorem fn_areL (D : Df K mg "_law_are_steps" sAreL) (m2 : mg "enumerate" = none) : FAreL P w K mg base := by
  refine D.pure scAreL (by rintro ds d ⟨ss, rfl, _⟩; rfl) rfl (fun _ _ _ _ _ _ us hl => match us, hl with | [_], _ => rfl) fun f cdv A outer s0 H E G vs ds d Q hr hG hv hD k => ?_
  obtain ⟨ss, rfl, rfl, hf⟩ := hD
  obtain ⟨v, rfl, da⟩ := hv.one
  have hu := hr.u65
  have hsz : sizeLine = 16777216 := sizeLine_eq
  refine ⟨_, pss_cons (ps_for PassesOwn.never rfl (pi_enumS (K := K) m2 (pa_cons (pv 0) pa_nil)) (pg_tup rfl (pgs_cons (pg_name (i := 1) scAreL.nd rfl (.inl rfl)) (pgs_cons (pg3 (K := K) rfl (pg_name (i := 2) scAreL.nd rfl (.inl rfl)) (pg_name (i := 3) scAreL.nd rfl (.inl rfl)) (pg_name (i := 4) scAreL.nd rfl (.inl rfl))) pgs_nil)))
      (pss_one (ps_if (PW.pt (pw_or (xt_in (K := K) hu (pe_tup (pa_cons pe_str (pa_cons (pe_op op_sub pe_int (pv 2)) pa_nil))) (pv 3)) (pw_or (xt_in (K := K) hu (pe_tup (pa_cons pe_str (pa_cons (pe_op op_sub pe_int (pv 2)) pa_nil))) (pv 4))
        (pw_or1 (PW.pt (pw_and (pt_cmpR op_eq (pv 1) pe_int (nomark _)) (pw_and1 (PW.pt (pw_or (pt_cmpR op_ne (pv 2) pe_int (nomark _)) (pw_or1 (xt_ne (K := K) hu (pv 3) (pe_lst pa_nil)))))))))))) (pss_one (ps_ret pe_bl)) pss_nil)))
    (pss_one (ps_ret pe_bl)), ?_⟩
  refine tFor_use hG (WR_enumS (K := K) (ds := ss.map encS) (PRA_one (PV (σ := [some v, none, none, none, none]) (i := 0) da)) rfl) fun J G2 H2 e2 dw => ?_
  refine for_pt dw (fun j σ H' => ∃ G' x1 x2 x3 x4, Ext G2 H2 G' H' ∧ σ = [some v, x1, x2, x3, x4] ∧ wrongFrom j (ss.drop j) = wrongFrom 0 ss) ⟨G2, none, none, none, none, .refl e2.gh, rfl, rfl⟩ ?_ ?_ ?_
  · rintro j σ H' hj ⟨G', x1, x2, x3, x4, x, _⟩
    exact x.gg.trans x.gh
  · rintro j d x σ H3 H3' hd ⟨G3, x1, x2, x3, x4, e3, rfl, hw⟩ s3 y
    obtain ⟨e, he, rfl⟩ := enumD_at _ hd
    obtain ⟨s, hs1, rfl⟩ := get_map he
    obtain ⟨G4, e4, dx⟩ := y G3 e3.gg e3.gh
    have e34 := e2.trans (e3.trans e4)
    refine Gp_tup (Gps_cons Gp_nm fun σ1 => Gps_cons (gp3 (Or.inr rfl)) fun σ2 => Gps_nil) rfl x G4 H3' _ dx e4.gh fun σ' ⟨σ1, ⟨u, du, e1'⟩, σ2, ⟨u3, u4, u5, d3, d4, d5, e2'⟩, e3'⟩ => ?_
    subst e3' e2' e1'
    have hjl : j < ss.length := (List.getElem?_eq_some_iff.mp hs1).1
    have hdrop : ss.drop j = s :: ss.drop (j + 1) := by
      rw [List.drop_eq_getElem_cons hjl]
      congr 1
      exact Option.some.inj ((List.getElem?_eq_getElem hjl).symm.trans hs1)
    rw [hdrop, wrongFrom] at hw
    obtain ⟨hp1, hk1, hk2⟩ := hf s (List.mem_of_getElem? hs1)
    have lay : ∀ q : Kd, PR (tTup (tCons (tC (.str q.str)) (tCons (tOp (rI0 fun i j => .int (i - j)) (tC (.int 1)) (tVar 2)) tNil))) [some v, some u, some u3, some u4, some u5] G4 (encL (q, 1 - s.part)) := fun q =>
      (PR_tup (PRA_two PR_str (PR_op RR2_subI PR_int (PV (i := 2) d3))) (by show 2 ≤ sizeLine; omega)).eq (by
        have e : ((1 - s.part : Nat) : Int) = 1 - (s.part : Int) := by omega
        simp only [encL]
        rw [e])
    refine tIf_use (b := wrongAt j s) (TR.eq (TR_or (TR_test (PR_op (RR2_in ((encL_sh _).shaped (by decide)) ((lays_sh s.tk).shaped (by decide))) (lay .ci) (PV d4))) fun _ => TR_or (TR_test (PR_op (RR2_in ((encL_sh _).shaped (by decide)) ((lays_sh s.pt).shaped (by decide))) (lay .se) (PV d5))) fun _ =>
      TR_and (TR_test (PR_op RR2_eqI (PV du) PR_int)) fun _ => TR_or (TR_test (PR_op RR2_neI (PV d3) PR_int)) fun _ => TR_test (PR_op (RR2_ne ((lays_sh s.tk).shaped (by decide)) ((lays_sh []).shaped (by decide))) (PV d4) (PR_lst PRA_nil (by show 0 ≤ sizeLine; omega)))) ?_) e4.gh fun H5 e5 => ?_
    · rw [hasD_lays, hasD_lays, eqv_of s.tk []]
      unfold wrongAt okS
      have a1 : decide ((j : Int) = 0) = decide (j = 0) := decide_eq_decide.mpr (by omega)
      have a2 : decide ((s.part : Int) ≠ 0) = decide (s.part ≠ 0) := decide_eq_decide.mpr (by omega)
      have a3 : decide (s.tk ≠ []) = decide (0 < s.tk.length) := decide_eq_decide.mpr (by rw [List.length_pos_iff])
      rw [a1, a2, a3]
      cases hasL s.tk (.ci, 1 - s.part) <;> cases hasL s.pt (.se, 1 - s.part) <;> rfl
    cases hb : wrongAt j s with
    | true =>
      rw [hb, if_pos rfl] at hw
      refine iteT (tRet_bl (e4.gh.trans e5) fun v' G' H' x dv => k v' G' H' ((e34.trans (Ext.more e4.gh e5)).trans x) ?_)
      rw [← hw]; exact dv
    | false =>
      rw [hb, if_neg (by decide)] at hw
      exact iteF ⟨G4, some u, some u3, some u4, some u5, (e3.trans e4).trans (Ext.more e4.gh e5), rfl, hw⟩
  · rintro σ H3 ⟨G3, x1, x2, x3, x4, e3, rfl, hw⟩
    rw [enumD_len, List.length_map, List.drop_length] at hw
    dsimp only
    refine tRet_bl e3.gh fun v' G' H' x dv => k v' G' H' ((e2.trans e3).trans x) ?_
    rw [← hw]; exact dv
end
end K50
set_option Elab.async false
set_option linter.all false
set_option maxRecDepth 100000
set_option maxHeartbeats 4000000
/-! K50s: _law_mended -/
namespace K50
open PySem PySem.Spec PyProof.Rows L2 PD StX RZ
abbrev sMendL : Stmt := top 55
section
variable {P : Program} {w : World} {K : PySem.W.Frag} {mg : Str → Option Value} {base : Heap}
abbrev nMendL : List Str := ["_law_steps", "_law_mend", "_law_found", "_law_index", "_law_part", "_law_takes", "_law_puts"]
theorem scMendL : FnScope nMendL ["_law_steps", "_law_mend"] (defScope sMendL) := ⟨rfl, rfl, rfl, by decide +kernel, rfl, by decide +kernel, by decide +kernel⟩
/-- the steps that come of it, None where they are none -/
def lawMended (ss : List Stp) (m : Mnd) : PyData := if wrongFrom 0 (mendS ss m) = none then encSS (mendS ss m) else .none
def DMendL (ds : List PyData) (d : PyData) : Prop := ∃ (ss : List Stp) (m : Mnd), ds = [encSS ss, encM m] ∧ d = lawMended ss m ∧ Fits ss m ∧ Short ss ∧ ∀ s ∈ mendS ss m, FormS s
abbrev FMendL (P : Program) (w : World) (K : PySem.W.Frag) (mg : Str → Option Value) (base : Heap) : Prop := Fn P w K mg base CX0 "_law_mended" 2 2 (spP DMendL)
theorem fn_mendL (D : Df K mg "_law_mended" sMendL) (FW : FPutL P w K mg base) (FA : FAreL P w K mg base) (m1 : mg "len" = none) (m2 : mg "list" = none) : FMendL P w K mg base := by
  refine D.pure scMendL (by rintro ds d ⟨ss, i, rfl, _⟩; rfl) rfl (fun _ _ _ _ _ _ us hl => match us, hl with | [_, _], _ => rfl) fun f cdv A outer s0 H E G vs ds d Q hr hG hv hD k => ?_
  obtain ⟨ss, m, rfl, rfl, hf, hsh, hform⟩ := hD
  obtain ⟨v, u, rfl, dv, du⟩ := hv.two
  have hsz : sizeLine = 16777216 := sizeLine_eq
  have hsh1 : ∀ j, (stp ss j).tk.length ≤ 1000 ∧ (stp ss j).pt.length ≤ 1000 := fun j => by
    rcases Nat.lt_or_ge j ss.length with h | h
    · exact hsh.2 _ (List.mem_of_getElem? (stp_at h))
    · rw [stp, List.getD_eq_getElem?_getD, List.getElem?_eq_none h]; exact ⟨Nat.zero_le _, Nat.zero_le _⟩
  refine ⟨_, pss_cons (ps_par (i := 2) (j := 3) (by rfl) scMendL.nd rfl rfl (by decide) rfl rfl (pa_cons (xe_list (K := K) m2 (pv 0)) (pa_cons (xe_item (K := K) (pv 1) pe_int) pa_nil)) (by rfl))
    (pss_cons (ps_asg (xe_ixL (K := K) (pv 0) (pv 3)) (pg3 (K := K) rfl (pg_name (i := 4) scMendL.nd rfl (.inl rfl)) (pg_name (i := 5) scMendL.nd rfl (.inl rfl)) (pg_name (i := 6) scMendL.nd rfl (.inl rfl))))
    (pss_cons (ps_asg (pe_tup (pa_cons (pv 4) (pa_cons (pv 5) (pa_cons (pe_fn FW hr (by rfl) pass0 (pa_cons (pv 6) (pa_cons (pv 1) pa_nil))) pa_nil)))) (pg_sub (pv 2) (pv 3) set_list))
    (pss_cons (ps_if (pt_cmpR op_lt (pe_op op_add (pv 3) pe_int) (xe_len (K := K) m1 (pv 0)) (nomark _))
      (pss_cons (ps_asg (xe_ixL (K := K) (pv 0) (pe_op op_add (pv 3) pe_int)) (pg3 (K := K) rfl (pg_name (i := 4) scMendL.nd rfl (.inl rfl)) (pg_name (i := 5) scMendL.nd rfl (.inl rfl)) (pg_name (i := 6) scMendL.nd rfl (.inl rfl))))
      (pss_one (ps_asg (pe_tup (pa_cons (pv 4) (pa_cons (pe_fn FW hr (by rfl) pass0 (pa_cons (pv 5) (pa_cons (pv 1) pa_nil))) (pa_cons (pv 6) pa_nil)))) (pg_sub (pv 2) (pe_op op_add (pv 3) pe_int) set_list)))) pss_nil)
    (pss_one (ps_ret (pe_ifExp (pt_val (pe_fn FA hr (by rfl) pass0 (pa_cons (pv 2) pa_nil))) (pv 2) pe_non)))))), ?_⟩
  cases dv with
  | @lst a vs _ ha hall =>
  refine ⟨_, rfl, _, vs, rfl, .inl (SqL.of (hG _ _ ha)), fun p hp => ?_⟩
  have g0 := (Gr.start hG).new (xs := vs) hp
  have hm1 : PR (tOp (rIx K) (tVar 1) (tC (.int 1))) [some (.ref a), some u, none, none, none, none, none] G (.int m.ix) := by
    cases m with
    | add i p l => exact PR_op (RR2_item rfl (j := 1) rfl) (PV du) PR_int
    | shift i p t => exact PR_op (RR2_item rfl (j := 1) rfl) (PV du) PR_int
  refine hm1 _ _ g0.gh fun vi G1 H1 e1 di => ?_
  cases di
  refine ⟨_, _, rfl, ?_⟩
  have g1 := g0.ext e1
  have hp1 : H1 p = some (.lst vs) := e1.hh _ _ upd_same
  have dv1 : Dq G1 (.ref a) (encSS ss) := .lst (e1.gg _ _ ha) (hall.up e1.gg)
  have du1 := du.up e1.gg
  have hl1 := hall.len
  rw [List.length_map] at hl1
  have hix : m.ix < vs.length := by rw [hl1]; exact hf.ix
  refine tSetP_use g1.gh (PR_stepAt (PV dv1) (PV (.int _)) hf.ix) (gp3 (Or.inr rfl)) fun σ' G2 H2 e2 ⟨u4, u5, u6, d4, d5, d6, eσ⟩ => ?_
  subst eσ
  have g2 := g1.ext e2
  have hp2 : H2 p = some (.lst vs) := e2.hh _ _ hp1
  refine tAsg_use g2.gh (PR_tup (PRA_cons (PV (σ := [some (.ref a), some u, some (.ref p), some (.int m.ix), some u4, some u5, some u6]) (i := 4) d4) (PRA_two (PV (i := 5) d5) (PR_call (D := DWithL) (E := E0) (PRA_two (PV (i := 6) d6) (PV (i := 1) (du1.up e2.gg))) ⟨_, m, rfl, rfl, hf.pt, (hsh1 _).2⟩))) (by show 3 ≤ sizeLine; omega)) fun v3 G3 H3 e3 d3 => ?_
  have g3 := g2.ext e3
  have hp3 : H3 p = some (.lst vs) := e3.hh _ _ hp2
  refine ⟨_, rfl, _, rfl, p, vs, _, m.ix, rfl, rfl, hp3, ixN_of hix, ?_⟩
  have g3' := g3.put (xs := vs.set m.ix v3) (List.mem_cons_self ..)
  have e13 := e1.gg.trans (e2.gg.trans e3.gg)
  have all3 : DqAll G3 (vs.set m.ix v3) ((mendAt ss m).map encS) := by
    rw [mendAt_map]
    exact DqAll.set _ (hall.up e13) d3
  have dv3 : Dq G3 (.ref a) (encSS ss) := dv1.up (e2.gg.trans e3.gg)
  have pj : ∀ {σ : L2.St} {G : Hp}, σ[3]? = some (some (.int m.ix)) → PR (tOp (rI0 fun i j => .int (i + j)) (tVar 3) (tC (.int 1))) σ G (.int ((m.ix + 1 : Nat) : Int)) := fun h => (PR_op RR2_addI (PR_var h (.int _)) PR_int).eq (by congr 1)
  have fin : ∀ {σ : L2.St} {G4 H4 : Hp} {xs : List V}, σ[2]? = some (some (.ref p)) → Gr G H [p] G4 H4 → H4 p = some (.lst xs) → DqAll G4 xs ((mendS ss m).map encS) →
      tRet (tIf (tB (tCall (spP DAreL) [] E0 (tCons (tVar 2) tNil))) (tVar 2) (tC .non)) { nx := fun _ H' => Q .non H', rt := Q } σ H4 := fun {σ G4 H4 xs} hσ g h d => by
    have gf := g.freeze h
    have df : Dq (upd G4 p (.lst xs)) (.ref p) (encSS (mendS ss m)) := .lst upd_same (d.up (g.tmp (List.mem_cons_self ..) h).2)
    refine tRet_use gf.gh (PR_if (TR_tB (PR_call (PRA_one (PR_var hσ df)) ⟨_, rfl, rfl, hform⟩)) (fun hb => ?_) fun hb => ?_) fun v' G' H' x dv' => k v' G' H' (gf.done.trans x) dv'
    · rw [lawMended, if_pos (of_decide_eq_true hb)]; exact PR_var hσ df
    · rw [lawMended, if_neg (of_decide_eq_false hb)]; exact PR_non
  refine tIf_use (b := decide (m.ix + 1 < ss.length)) (TR.eq (TR_test (PR_op RR2_ltI (pj rfl) (lenSS (PV (i := 0) dv3)))) (decide_eq_decide.mpr (by omega))) g3'.gh fun H4 e4 => ?_
  have g4 := g3'.same e4
  have hp4 : H4 p = some (.lst (vs.set m.ix v3)) := e4 _ _ upd_same
  by_cases hn : m.ix + 1 < ss.length
  · rw [decide_eq_true hn]
    refine iteT ?_
    refine tSetP_use g4.gh (PR_stepAt (PV (i := 0) dv3) (pj rfl) hn) (gp3 (Or.inr rfl)) fun σ' G5 H5 e5 ⟨w4, w5, w6, c4, c5, c6, eσ⟩ => ?_
    subst eσ
    have g5 := g4.ext e5
    have hp5 : H5 p = some (.lst (vs.set m.ix v3)) := e5.hh _ _ hp4
    refine tAsg_use g5.gh (PR_tup (PRA_cons (PV (σ := [some (.ref a), some u, some (.ref p), some (.int m.ix), some w4, some w5, some w6]) (i := 4) c4) (PRA_two (PR_call (D := DWithL) (E := E0) (PRA_two (PV (i := 5) c5) (PV (i := 1) (du.up (e13.trans e5.gg)))) ⟨_, m, rfl, rfl, hf.tk hn, (hsh1 _).1⟩) (PV (i := 6) c6))) (by show 3 ≤ sizeLine; omega)) fun v5 G6 H6 e6 d6' => ?_
    have g6 := g5.ext e6
    have hp6 : H6 p = some (.lst (vs.set m.ix v3)) := e6.hh _ _ hp5
    refine ⟨_, rfl, _, rfl, _, _, rfl, rfl, p, _, _, m.ix + 1, rfl, rfl, hp6, ?_, ?_⟩
    · have : ((m.ix : Int) + 1) = ((m.ix + 1 : Nat) : Int) := by omega
      rw [this]
      exact ixN_of (by rw [List.length_set]; omega)
    refine fin rfl (g6.put (List.mem_cons_self ..)) upd_same ?_
    rw [mendS, if_pos hn, List.map_set]
    exact DqAll.set _ ((all3.up e5.gg).up e6.gg) d6'
  · rw [decide_eq_false hn]
    refine iteF (fin rfl g4 hp4 ?_)
    rw [mendS, if_neg hn]
    exact all3
end
end K50
set_option Elab.async false
set_option linter.all false
set_option maxRecDepth 100000
set_option maxHeartbeats 4000000
/-! K50t: _law_pick -/
namespace K50
open PySem PySem.Spec PyProof.Rows L2 PD StX RZ NdefX LamX
abbrev sPick : Stmt := top 45
section
variable {P : Program} {w : World} {K : PySem.W.Frag} {mg : Str → Option Value} {base : Heap} {t : Tb} {W : Wl} {n m : Nat} {G H H0 : Hp} {σ : L2.St} {c c1 c2 : Nat} {D : PyData → Prop} {ta tb : TE}
abbrev nPick : List Str := ["_law_stream_here", "_law_things"]
theorem scPick : FnScope nPick ["_law_stream_here", "_law_things"] (defScope sPick) := ⟨rfl, rfl, rfl, by decide +kernel, rfl, by decide +kernel, by decide +kernel⟩
def prPick (ds : List PyData) : Prop := ∃ xs, ds = [.list xs] ∧ xs ≠ [] ∧ xs.length ≤ 1000
def DPick (ds : List PyData) (d : PyData) : Prop := ∃ xs, ds = [.list xs] ∧ d ∈ xs
abbrev FPick (P : Program) (w : World) (K : PySem.W.Frag) (mg : Str → Option Value) (base : Heap) (t : Tb) : Prop := Fn P w K mg base CX0 "_law_pick" 2 2 (spS t (fun _ => 1) prPick DPick)
theorem fn_pick (D : Df K mg "_law_pick" sPick) (FD : FDraw P w K mg base t) (m1 : mg "len" = none) : FPick P w K mg base t := by
  refine D.fn scPick (by rintro vs H Q E ⟨W, G, ds, n, us, ht, rfl, hG, hcl, hw, hl, hd, ⟨xs, rfl, hx⟩, k⟩; have := hd.len; simp at this; simp [this]) rfl (fun _ _ _ _ _ _ us hl => match us, hl with | [_, _], _ => rfl) fun f cdv A outer s H vs Q E hr hsp => ?_
  obtain ⟨W, G, ds, n, us, rfl, rfl, hG, hcl, hw, hl, hd, ⟨xs, rfl, hne, hx⟩, kq⟩ := hsp
  obtain ⟨u, rfl, du⟩ := hd.one
  refine ⟨_, pss_one (ps_ret (xe_ixL (K := K) (pv 1) (pe_fn FD hr (by rfl) pass0 (pa_cons (pv 0) (pa_cons (xe_len (K := K) m1 (pv 1)) pa_nil))))), ?_⟩
  have h0 : 0 < xs.length := List.length_pos_iff.mpr hne
  have key : PN W (tOp (rIxL K) (tVar 1) (tCall (spS W.t (fun _ => 1) prDraw DDraw) [] E0 (tCons (tVar 0) (tCons (tCB (rLenQ K) (tCons (tVar 1) tNil)) tNil)))) [some (.ref W.st), some u] G (0 + 1) (fun d => d ∈ xs) := by
    refine PN_op (D1 := (· = .list xs)) (D2 := fun d => ∃ j : Nat, d = .int j ∧ j < xs.length) (fun a b ha hb => ?_) (PN_of (PV (i := 1) du)) (PN_draw (m := xs.length) rfl ((PR_len (PV (i := 1) du) rfl).eq (by simp [itemsD])) h0 (by omega))
    obtain ⟨j, rfl, hj⟩ := hb
    subst ha
    exact ⟨xs[j], List.getElem_mem hj, RR2_ixL (List.getElem?_eq_getElem hj)⟩
  exact key H n _ hG hcl hw (by simpa using hl) fun d v G' H' hd' x hw' dv => kq d v G' H' ⟨xs, rfl, hd'⟩ x (by simpa using hw') dv
/-- _law_pick(stream, [..]) -/
theorem PN_pick {i : Nat} {tx : TE} {xs : List PyData} {E : XK} (hσ : σ[i]? = some (some (.ref W.st))) (hx : PR tx σ G (.list xs)) (h0 : xs ≠ []) (h1 : xs.length ≤ 1000) : PN W (tCall (spS W.t (fun _ => 1) prPick DPick) [] E (tCons (tVar i) (tCons tx tNil))) σ G 1 (fun d => d ∈ xs) :=
  (PN_callS (c2 := 1) hσ (PNA_of (PRA_one hx)) fun ds e => by
    subst e
    exact ⟨⟨xs, rfl, h0, h1⟩, Nat.le_refl _, fun d ⟨ys, e1, e2⟩ => by cases e1; exact e2⟩).imp (by omega) fun _ h => h
end
end K50
set_option Elab.async false
set_option linter.all false
set_option maxRecDepth 100000
set_option maxHeartbeats 4000000
/-! K50u: _law_stream, _law_met -/
namespace K50
open PySem PySem.Spec PyProof.Rows L2 PD StX RZ NdefX LamX
section
variable {P : Program} {w : World} {K : PySem.W.Frag} {mg : Str → Option Value} {base : Heap} {G H G' H' : Hp}
abbrev sStrm : Stmt := top 43
abbrev nStrm : List Str := ["_law_script"]
theorem scStrm : FnScope nStrm ["_law_script"] (defScope sStrm) := ⟨rfl, rfl, rfl, by decide +kernel, rfl, by decide +kernel, by decide +kernel⟩
def spStream (K : PySem.W.Frag) : Sp := fun vs H Q _ => ∃ s xs, vs = [.ref s] ∧ SqL K H s xs ∧ ∀ ce st, H ce = none → H st = none → ce ≠ st → Q (.ref st) (upd (upd H ce (.lst xs)) st (.lst [.ref ce, .int 0, .int 0, .int 17]))
theorem fn_stream (D : Df K mg "_law_stream" sStrm) (m1 : mg "list" = none) : Fn P w K mg base CX0 "_law_stream" 1 1 (spStream K) := by
  refine D.fn scStrm (by rintro vs H Q E ⟨s, xs, rfl, _⟩; rfl) rfl (fun _ _ _ _ _ _ us hl => match us, hl with | [_], _ => rfl) fun f cdv A outer s H vs Q E hr hsp => ?_
  obtain ⟨a, xs, rfl, ha, k⟩ := hsp
  refine ⟨_, pss_one (ps_ret (pe_lst (pa_cons (xe_list (K := K) m1 (pv 0)) (pa_cons pe_int (pa_cons pe_int (pa_cons pe_int pa_nil)))))), ?_⟩
  refine ⟨_, rfl, a, xs, rfl, .inl ha, fun ce hce => ⟨by show 4 ≤ sizeLine; decide, fun st hst => ?_⟩⟩
  have n : ce ≠ st := by rintro rfl; rw [upd_same] at hst; cases hst
  exact k ce st hce (NdefX.upd_none hst) n
/-! ### a call whose exceptions a clause takes -/
end
end K50
set_option Elab.async false
set_option linter.all false
set_option maxRecDepth 100000
set_option maxHeartbeats 4000000
/-! K50v: _law_step -/
namespace K50
open PySem PySem.Spec PyProof.Rows L2 PD StX RZ NdefX LamX
abbrev sStepL : Stmt := top 49
section
variable {P : Program} {w : World} {K : PySem.W.Frag} {mg : Str → Option Value} {base : Heap} {t : Tb} {W : Wl} {n m : Nat} {G H H0 : Hp} {σ : L2.St} {c c1 c2 : Nat} {D : PyData → Prop} {ta tb : TE}
abbrev nStepL : List Str := ["_law_stream_here", "_law_part", "_law_many", "_law_takes", "_law_puts", "_law_k", "_law_kind", "_law_whose"]
theorem scStepL : FnScope nStepL ["_law_stream_here", "_law_part", "_law_many"] (defScope sStepL) := ⟨rfl, rfl, rfl, by decide +kernel, rfl, by decide +kernel, by decide +kernel⟩
def prStepL (ds : List PyData) : Prop := ∃ p k : Nat, ds = [.int p, .int k] ∧ p ≤ 1 ∧ 0 < k ∧ k ≤ 3
def DStepL (ds : List PyData) (d : PyData) : Prop := ∃ p k s, ds = [.int (p : Nat), .int (k : Nat)] ∧ d = encS s ∧ s.part = p ∧ FormS s ∧ okS s = true ∧ s.tk.length ≤ k ∧ s.pt.length ≤ k
/-- a drawn layer, whose of the part ow where its kind is kd -/
def kindsL : List PyData := [.str "cipher", .str "cipher", .str "seal", .str "label", .str "word"]
theorem kindsL_mem {d : PyData} (h : d ∈ kindsL) : ∃ k : Kd, d = .str k.str := by
  simp only [kindsL, List.mem_cons, List.not_mem_nil, or_false] at h
  rcases h with rfl | rfl | rfl | rfl | rfl
  · exact ⟨.ci, rfl⟩
  · exact ⟨.ci, rfl⟩
  · exact ⟨.se, rfl⟩
  · exact ⟨.la, rfl⟩
  · exact ⟨.wo, rfl⟩
theorem kd_eq (a b : Kd) : decide (a.str = b.str) = decide (a = b) := decide_eq_decide.mpr kd_inj
/-- x.append(e), e may draw -/
theorem put_appN {G0 H0 G H : Hp} {ps : List Addr} {p : Addr} {acc : List V} {i n0 n c : Nat} {te : TE} {De : Ends} {σ : L2.St} {D' : PyData → Prop} (g : GrW W G0 H0 ps G H) (w0 : WOk W n0 H0) (hw : WOk W n H) (hp : p ∈ ps) (hσ : σ[i]? = some (some (.ref p))) (hx : H p = some (.lst acc)) (h : PN W te σ G c D') (hl : n + c ≤ lim) (z : acc.length < sizeLine)
    (k : ∀ d v G1 H1, D' d → GrW W G0 H0 ps G1 H1 → WOk W (n + c) H1 → Same G G1 → Dq G1 v d → H1 p = some (.lst (acc ++ [v])) → (∀ q xs, q ∈ ps → q ≠ p → H q = some (.lst xs) → H1 q = some (.lst xs)) → De.nx σ H1) : tDrop (tBM K "list" rAppend (tVar i) (tCons te tNil)) De σ H := by
  refine ⟨_, hσ, .inl ⟨rfl, _, SqL.of hx⟩, h H n _ g.x.gh g.x.cl hw hl fun d v G1 H1 hd x hw1 dv => ?_⟩
  have g1 := g.ext w0 x
  have off := fun q (hq : q ∈ ps) => g.off w0 hq
  have keep : ∀ q xs, q ∈ ps → H q = some (.lst xs) → H1 q = some (.lst xs) := fun q xs hq e => x.hh _ _ e ⟨(off q hq).1, (off q hq).2, fun _ z => nomatch z⟩
  exact ⟨p, acc, v, rfl, rfl, keep p acc hp hx, z, k d v G1 _ hd (g1.put hp) (g1.wput w0 hw1 hp) x.gg dv upd_same fun q xs hq ne e => by rw [upd_ne ne]; exact keep q xs hq e⟩
theorem grw_keep {G0 H0 G H G1 H1 : Hp} {ps : List Addr} {n0 : Nat} (g : GrW W G0 H0 ps G H) (w0 : WOk W n0 H0) (x : ExtW W G H G1 H1) {q : Addr} {xs : List V} (hq : q ∈ ps) (e : H q = some (.lst xs)) : H1 q = some (.lst xs) :=
  x.hh _ _ e ⟨(g.off w0 hq).1, (g.off w0 hq).2, fun _ z => nomatch z⟩
abbrev FStepL (P : Program) (w : World) (K : PySem.W.Frag) (mg : Str → Option Value) (base : Heap) (t : Tb) : Prop := Fn P w K mg base CX0 "_law_step" 3 3 (spS t (fun _ => 30) prStepL DStepL)
/-- one turn's layer: of the kind ow it is the part's own -/
theorem turn_lay {G0 H0 G H : Hp} {ps : List Addr} {p q pl : Addr} {acc : List V} {n0 n part : Nat} {u2 : V} {x5 x6 x7 : Option V} {De : Ends} (ow : Kd) (how : ow ≠ .wo) (i : Nat) (g : GrW W G0 H0 ps G H) (w0 : WOk W n0 H0) (hw : WOk W n H) (hp : pl ∈ ps) (hl : n + 3 ≤ lim) (hpart : part ≤ 1)
    (hσ : [some (.ref W.st), some (.int part), some u2, some (.ref p), some (.ref q), x5, x6, x7][i]? = some (some (.ref pl))) (hi : i = 3 ∨ i = 4) (hx : H pl = some (.lst acc)) (hz : acc.length < sizeLine) {E1 E2 E3 : XK}
    (k : ∀ (l : Lay) v G1 H1 y6 y7, okLay l → l ≠ (ow, 1 - part) → GrW W G0 H0 ps G1 H1 → WOk W (n + 3) H1 → Same G G1 → Dq G1 v (encL l) → H1 pl = some (.lst (acc ++ [v])) → (∀ b xs, b ∈ ps → b ≠ pl → H b = some (.lst xs) → H1 b = some (.lst xs)) → De.nx [some (.ref W.st), some (.int part), some u2, some (.ref p), some (.ref q), x5, y6, y7] H1) :
    tSeq (tAsg (tCall (spS W.t (fun _ => 1) prPick DPick) [] E1 (tCons (tVar 0) (tCons (tLst (tCons (tC (.str "cipher")) (tCons (tC (.str "cipher")) (tCons (tC (.str "seal")) (tCons (tC (.str "label")) (tCons (tC (.str "word")) tNil)))))) tNil))) (gName 6))
      (tSeq (tAsg (tIf (tTest (tOp rEq (tVar 6) (tC (.str ow.str)))) (tVar 1) (tCall (spS W.t (fun _ => 1) prDraw DDraw) [] E2 (tCons (tVar 0) (tCons (tC (.int 2)) tNil)))) (gName 7))
        (tDrop (tBM K "list" rAppend (tVar i) (tCons (tTup (tCons (tVar 6) (tCons (tIf (tTest (tOp rEq (tVar 6) (tC (.str "word")))) (tCall (spS W.t (fun _ => 1) prDraw DDraw) [] E3 (tCons (tVar 0) (tCons (tC (.int 3)) tNil))) (tVar 7)) tNil))) tNil)))) De
      [some (.ref W.st), some (.int part), some u2, some (.ref p), some (.ref q), x5, x6, x7] H := by
  have hsz : sizeLine = 16777216 := sizeLine_eq
  refine PN_pick (xs := kindsL) rfl (PR_lst (PRA_cons PR_str (PRA_cons PR_str (PRA_cons PR_str (PRA_cons PR_str (PRA_one PR_str))))) (by show 5 ≤ sizeLine; omega)) (by simp [kindsL]) (by simp [kindsL]) H n _ g.x.gh g.x.cl hw (by omega) fun d v6 G1 H1 hd x1 hw1 d6 => ?_
  obtain ⟨kd, rfl⟩ := kindsL_mem hd
  have g1 := g.ext w0 x1
  have a1 := grw_keep g w0 x1 hp hx
  have key2 : PN W (tIf (tTest (tOp rEq (tVar 6) (tC (.str ow.str)))) (tVar 1) (tCall (spS W.t (fun _ => 1) prDraw DDraw) [] E2 (tCons (tVar 0) (tCons (tC (.int 2)) tNil)))) [some (.ref W.st), some (.int part), some u2, some (.ref p), some (.ref q), x5, some v6, x7] G1 1 (fun d => ∃ j : Nat, d = .int j ∧ j ≤ 1 ∧ (kd = ow → j = part)) := by
    refine PN_if (TR_test (PR_op RR2_eqS (PV (i := 6) d6) PR_str)) (fun _ => (PN_of (PV (i := 1) (.int _))).imp (by omega) fun d e => ⟨part, e, hpart, fun _ => rfl⟩) fun hb => (PN_draw (m := 2) rfl PR_int (by decide) (by decide)).imp (Nat.le_refl _) fun d ⟨j, e, hj⟩ => ⟨j, e, by omega, fun e => ?_⟩
    subst e
    exact absurd rfl (of_decide_eq_false hb)
  refine key2 H1 (n + 1) _ x1.gh x1.cl hw1 (by omega) fun d v7 G2 H2 hd2 x2 hw2 d7 => ?_
  obtain ⟨j, rfl, hj1, hj2⟩ := hd2
  have g2 := g1.ext w0 x2
  have a2 := grw_keep g1 w0 x2 hp a1
  have d6' := d6.up x2.gg
  have key3 : PN W (tTup (tCons (tVar 6) (tCons (tIf (tTest (tOp rEq (tVar 6) (tC (.str "word")))) (tCall (spS W.t (fun _ => 1) prDraw DDraw) [] E3 (tCons (tVar 0) (tCons (tC (.int 3)) tNil))) (tVar 7)) tNil))) [some (.ref W.st), some (.int part), some u2, some (.ref p), some (.ref q), x5, some v6, some v7] G2 1 (fun d => ∃ l : Lay, d = encL l ∧ okLay l ∧ l.1 = kd ∧ (kd = .wo → l.2 ≤ 9) ∧ (kd ≠ .wo → l.2 = j)) := by
    refine (PN_tup (c := 0 + (1 + 0)) (PNA_cons (PN_of (PV (i := 6) d6')) (PNA_cons (D := fun d => ∃ w : Nat, d = .int w ∧ w ≤ 9 ∧ (kd ≠ .wo → w = j)) (PN_if (TR_test (PR_op RR2_eqS (PV (i := 6) d6') PR_str)) (fun hb => (PN_draw (m := 3) rfl PR_int (by decide) (by decide)).imp (Nat.le_refl _) fun d ⟨w, e, hw⟩ => ⟨w, e, by omega, fun hne => ?_⟩) fun hb => (PN_of (PV (i := 7) d7)).imp (by omega) fun d e => ⟨j, e, by omega, fun _ => rfl⟩) PNA_nil)) fun ds ⟨a, as, e1, e2, b, bs, e3, ⟨w, e4, h9, hj'⟩, e5⟩ => ?_).imp (by omega) fun _ h => h
    · exact absurd (kd_inj.mp (of_decide_eq_true hb)) hne
    · subst e1 e2 e3 e4 e5
      refine ⟨by show 2 ≤ sizeLine; omega, (kd, w), rfl, ?_, rfl, fun _ => h9, hj'⟩
      by_cases hk : kd = .wo
      · exact .inl ⟨hk, h9⟩
      · exact .inr ⟨hk, by show w ≤ 1; rw [hj' hk]; exact hj1⟩
  refine put_appN g2 w0 hw2 hp ?_ a2 key3 (by omega) hz fun d v G3 H3 ⟨l, e, ok, e1, e2, e3⟩ g3 hw3 s3 dv h3 keep => ?_
  · rcases hi with rfl | rfl
    · exact hσ
    · exact hσ
  subst e
  refine k l v G3 H3 _ _ ok (fun e => ?_) g3 (by simpa [Nat.add_assoc] using hw3) ((x1.gg.trans x2.gg).trans s3) dv h3 fun b xs hb ne q => keep b xs hb ne (grw_keep g1 w0 x2 hb (grw_keep g w0 x1 hb q))
  subst e
  have : kd = ow := e1.symm
  have hj3 := hj2 this
  have hk : kd ≠ .wo := fun z => how (this.symm.trans z)
  have h3 : 1 - part = j := e3 hk
  omega
theorem fn_stepL (D : Df K mg "_law_step" sStepL) (FD : FDraw P w K mg base t) (FP : FPick P w K mg base t) (m1 : mg "range" = none) : FStepL P w K mg base t := by
  refine D.fn scStepL (by rintro vs H Q E ⟨W, G, ds, n, us, ht, rfl, hG, hcl, hw, hl, hd, ⟨p, k, rfl, hx⟩, kq⟩; have := hd.len; simp at this; simp [this]) rfl (fun _ _ _ _ _ _ us hl => match us, hl with | [_, _, _], _ => rfl) fun f cdv A outer s H vs Q E hr hsp => ?_
  obtain ⟨W, G, ds, n, us, rfl, rfl, hG, hcl, hw, hl, hd, ⟨part, many, rfl, hp1, hm0, hm3⟩, kq⟩ := hsp
  obtain ⟨u1, u2, rfl, d1, d2⟩ := hd.two
  cases d1
  cases d2
  have hl : n + 30 ≤ lim := hl
  have hsz : sizeLine = 16777216 := sizeLine_eq
  have hr1 : Room 1 _ := hr.mono (by decide : 1 ≤ 2)
  refine ⟨_, pss_cons (ps_par (i := 3) (j := 4) (by rfl) scStepL.nd rfl rfl (by decide) rfl rfl (pa_cons (pe_lst pa_nil) (pa_cons (pe_lst pa_nil) pa_nil)) (by rfl))
    (pss_cons (ps_for PassesOwn.never rfl (pi_range1 rfl m1 (pa_cons (pe_op op_add pe_int (pe_fn FD hr1 (by rfl) pass0 (pa_cons (pv 0) (pa_cons (pv 2) pa_nil)))) pa_nil)) (pg_name (i := 5) scStepL.nd rfl (.inl rfl))
      (pss_cons (ps_set (i := 6) scStepL.nd rfl (.inl rfl) (pe_fn FP hr (by rfl) pass0 (pa_cons (pv 0) (pa_cons (pe_lst (pa_cons pe_str (pa_cons pe_str (pa_cons pe_str (pa_cons pe_str (pa_cons pe_str pa_nil)))))) pa_nil))))
      (pss_cons (ps_set (i := 7) scStepL.nd rfl (.inl rfl) (pe_ifExp (pt_cmpR op_eq (pv 6) pe_str (nomark _)) (pv 1) (pe_fn FD hr1 (by rfl) pass0 (pa_cons (pv 0) (pa_cons pe_int pa_nil)))))
      (pss_one (xs_append (pv 3) (pe_tup (pa_cons (pv 6) (pa_cons (pe_ifExp (pt_cmpR op_eq (pv 6) pe_str (nomark _)) (pe_fn FD hr1 (by rfl) pass0 (pa_cons (pv 0) (pa_cons pe_int pa_nil))) (pv 7)) pa_nil))))))))
    (pss_cons (ps_for PassesOwn.never rfl (pi_range1 rfl m1 (pa_cons (pe_fn FD hr1 (by rfl) pass0 (pa_cons (pv 0) (pa_cons (pe_op op_add (pv 2) pe_int) pa_nil))) pa_nil)) (pg_name (i := 5) scStepL.nd rfl (.inl rfl))
      (pss_cons (ps_set (i := 6) scStepL.nd rfl (.inl rfl) (pe_fn FP hr (by rfl) pass0 (pa_cons (pv 0) (pa_cons (pe_lst (pa_cons pe_str (pa_cons pe_str (pa_cons pe_str (pa_cons pe_str (pa_cons pe_str pa_nil)))))) pa_nil))))
      (pss_cons (ps_set (i := 7) scStepL.nd rfl (.inl rfl) (pe_ifExp (pt_cmpR op_eq (pv 6) pe_str (nomark _)) (pv 1) (pe_fn FD hr1 (by rfl) pass0 (pa_cons (pv 0) (pa_cons pe_int pa_nil)))))
      (pss_one (xs_append (pv 4) (pe_tup (pa_cons (pv 6) (pa_cons (pe_ifExp (pt_cmpR op_eq (pv 6) pe_str (nomark _)) (pe_fn FD hr1 (by rfl) pass0 (pa_cons (pv 0) (pa_cons pe_int pa_nil))) (pv 7)) pa_nil))))))))
    (pss_one (ps_ret (pe_tup (pa_cons (pv 1) (pa_cons (pv 3) (pa_cons (pv 4) pa_nil)))))))), ?_⟩
  refine ⟨by show 0 ≤ sizeLine; omega, fun p hp => ⟨by show 0 ≤ sizeLine; omega, fun q hq => ⟨_, _, rfl, ?_⟩⟩⟩
  have npq : p ≠ q := ne_of_none upd_same hq
  have g0 : GrW W G H [q, p] G (upd (upd H p (.lst [])) q (.lst [])) := ((GrW.start hG hcl).new hw hp).new hw hq
  have hw0 : WOk W n (upd (upd H p (.lst [])) q (.lst [])) := (hw.up (same_new hp)).up (same_new hq)
  have mp : p ∈ [q, p] := List.mem_cons_of_mem _ (List.mem_cons_self ..)
  have mq : q ∈ [q, p] := List.mem_cons_self ..
  have key1 : PN W (tOp (rI0 fun i j => .int (i + j)) (tC (.int 1)) (tCall (spS W.t (fun _ => 1) prDraw DDraw) [] E0 (tCons (tVar 0) (tCons (tVar 2) tNil)))) [some (.ref W.st), some (.int part), some (.int many), some (.ref p), some (.ref q), none, none, none] G (0 + 1) (fun d => ∃ j : Nat, d = .int j ∧ j ≤ many) :=
    PN_op (D1 := (· = .int 1)) (D2 := fun d => ∃ j : Nat, d = .int j ∧ j < many) (fun a b ha hb => by
      obtain ⟨j, rfl, hj⟩ := hb
      subst ha
      exact ⟨_, ⟨1 + j, by simp, by omega⟩, RR2_addI⟩) (PN_of PR_int) (PN_draw rfl (PV (i := 2) (.int _)) hm0 (by omega))
  refine key1 _ n _ g0.x.gh g0.x.cl hw0 (by omega) fun d v G1 H1 hd1 x1 hw1 dv => ?_
  obtain ⟨k1, rfl, hk1⟩ := hd1
  cases dv
  have g1 := g0.ext hw x1
  refine ⟨k1, rfl, by omega, by omega, ?_⟩
  rw [Int.toNat_natCast]
  refine for_range (lo := 0) (n := k1) (fun i σ H' => ∃ (G' : Hp) (acc : List V) (ls : List Lay) (x5 x6 x7 : Option V), σ = [some (.ref W.st), some (.int part), some (.int many), some (.ref p), some (.ref q), x5, x6, x7] ∧ GrW W G H [q, p] G' H' ∧ WOk W (n + 1 + 3 * i) H' ∧ H' p = some (.lst acc) ∧ H' q = some (.lst []) ∧ DqAll G' acc (ls.map encL) ∧ ls.length = i ∧ ∀ l ∈ ls, okLay l ∧ l ≠ (Kd.ci, 1 - part)) ?_ ?_ ?_
  · exact ⟨G1, [], [], none, none, none, rfl, g1, by simpa using hw1, grw_keep g0 hw x1 mp (by rw [upd_ne npq, upd_same]), grw_keep g0 hw x1 mq upd_same, .nil, rfl, fun l h => by cases h⟩
  · rintro i σ H2 hi ⟨G2, acc, ls, x5, x6, x7, rfl, g2, hw2, a2, b2, d2, hlen, hok⟩
    have hal := d2.len
    rw [List.length_map] at hal
    refine turn_lay .ci (by decide) 3 g2 hw hw2 mp (by omega) hp1 rfl (.inl rfl) a2 (by omega) fun l v G3 H3 y6 y7 ok ne g3 hw3 s3 dv h3 keep => ?_
    refine ⟨G3, acc ++ [v], ls ++ [l], _, y6, y7, rfl, g3, by rw [Nat.mul_add, ← Nat.add_assoc]; exact hw3, h3, keep q [] mq (Ne.symm npq) b2, by rw [List.map_append]; exact (d2.up s3).snoc dv, by simp [hlen], fun l' hl' => ?_⟩
    rcases List.mem_append.mp hl' with h | h
    · exact hok l' h
    · rw [List.mem_singleton.mp h]; exact ⟨ok, ne⟩
  · rintro σ H2 ⟨G2, acc, ls, x5, x6, x7, rfl, g2, hw2, a2, b2, d2, hlen, hok⟩
    have key2 : PN W (tCall (spS W.t (fun _ => 1) prDraw DDraw) [] E0 (tCons (tVar 0) (tCons (tOp (rI0 fun i j => .int (i + j)) (tVar 2) (tC (.int 1))) tNil))) [some (.ref W.st), some (.int part), some (.int many), some (.ref p), some (.ref q), x5, x6, x7] G2 1 (fun d => ∃ j : Nat, d = .int j ∧ j < many + 1) :=
      PN_draw rfl ((PR_op RR2_addI (PV (i := 2) (.int _)) PR_int).eq (by congr 1)) (by omega) (by omega)
    refine key2 _ _ _ g2.x.gh g2.x.cl hw2 (by omega) fun d v G3 H3 hd3 x3 hw3 dv => ?_
    obtain ⟨k2, rfl, hk2⟩ := hd3
    cases dv
    have g3 := g2.ext hw x3
    refine ⟨k2, rfl, by omega, by omega, ?_⟩
    rw [Int.toNat_natCast]
    refine for_range (lo := 0) (n := k2) (fun i σ H' => ∃ (G' : Hp) (ac : List V) (ms : List Lay) (y5 y6 y7 : Option V), σ = [some (.ref W.st), some (.int part), some (.int many), some (.ref p), some (.ref q), y5, y6, y7] ∧ GrW W G H [q, p] G' H' ∧ WOk W (n + 1 + 3 * k1 + 1 + 3 * i) H' ∧ H' p = some (.lst acc) ∧ H' q = some (.lst ac) ∧ DqAll G' acc (ls.map encL) ∧ DqAll G' ac (ms.map encL) ∧ ms.length = i ∧ ∀ l ∈ ms, okLay l ∧ l ≠ (Kd.se, 1 - part)) ?_ ?_ ?_
    · exact ⟨G3, [], [], x5, x6, x7, rfl, g3, by simpa using hw3, grw_keep g2 hw x3 mp a2, grw_keep g2 hw x3 mq b2, d2.up x3.gg, .nil, rfl, fun l h => by cases h⟩
    · rintro i σ H4 hi ⟨G4, ac, ms, y5, y6, y7, rfl, g4, hw4, a4, b4, d4, f4, hml, hmk⟩
      have hal := f4.len
      rw [List.length_map] at hal
      refine turn_lay .se (by decide) 4 g4 hw hw4 mq (by omega) hp1 rfl (.inr rfl) b4 (by omega) fun l v G5 H5 z6 z7 ok ne g5 hw5 s5 dv h5 keep => ?_
      refine ⟨G5, ac ++ [v], ms ++ [l], _, z6, z7, rfl, g5, by rw [Nat.mul_add, ← Nat.add_assoc]; exact hw5, keep p acc mp npq a4, h5, d4.up s5, by rw [List.map_append]; exact (f4.up s5).snoc dv, by simp [hml], fun l' hl' => ?_⟩
      rcases List.mem_append.mp hl' with h | h
      · exact hmk l' h
      · rw [List.mem_singleton.mp h]; exact ⟨ok, ne⟩
    · rintro σ H4 ⟨G4, ac, ms, y5, y6, y7, rfl, g4, hw4, a4, b4, d4, f4, hml, hmk⟩
      obtain ⟨g5, s5⟩ := g4.freeze hw b4
      obtain ⟨g6, s6⟩ := g5.freeze hw a4
      have dq : Dq (upd (upd G4 q (.lst ac)) p (.lst acc)) (.ref q) (.list (ms.map encL)) := Dq.up (.lst upd_same (f4.up s5)) s6
      have dp : Dq (upd (upd G4 q (.lst ac)) p (.lst acc)) (.ref p) (.list (ls.map encL)) := .lst upd_same ((d4.up s5).up s6)
      dsimp only
      refine tRet_use g6.x.gh (PR_tup (PRA_cons (PV (i := 1) (.int _)) (PRA_two (PV (i := 3) dp) (PV (i := 4) dq))) (by show 3 ≤ sizeLine; omega)) fun v' G' H' x dv' => ?_
      refine kq (encS ⟨part, ls, ms⟩) v' _ H' ⟨part, many, ⟨part, ls, ms⟩, rfl, rfl, rfl, ⟨hp1, ⟨by show ls.length ≤ 1000; omega, fun l hl => (hok l hl).1⟩, ⟨by show ms.length ≤ 1000; omega, fun l hl => (hmk l hl).1⟩⟩, ?_, by show ls.length ≤ many; omega, by show ms.length ≤ many; omega⟩ (g6.x.trans (x.w g6.x.cl hw4)) ((hw4.up x.hh).mono (by show _ ≤ n + 30; omega)) (joinG_dq x.gg dv')
      have h1 : hasL ls (.ci, 1 - part) = false := List.any_eq_false.mpr fun l hl => by simpa using (hok l hl).2
      have h2 : hasL ms (.se, 1 - part) = false := List.any_eq_false.mpr fun l hl => by simpa using (hmk l hl).2
      show (!hasL ls (.ci, 1 - part) && !hasL ms (.se, 1 - part)) = true
      rw [h1, h2]; rfl
end
end K50
set_option Elab.async false
set_option linter.all false
set_option maxRecDepth 100000
set_option maxHeartbeats 4000000
/-! K50w: _law_tries, _law_any_protocol -/
namespace K50
open PySem PySem.Spec PyProof.Rows L2 PD StX RZ NdefX LamX
theorem perm_map {α β : Type} {f : α → β} {ys zs : List β} (h : ys.Perm zs) : ∀ {xs : List α}, zs = xs.map f → ∃ ls : List α, ls.Perm xs ∧ ys = ls.map f := by
  induction h with
  | nil => intro xs e; exact ⟨[], by rw [List.map_eq_nil_iff.mp e.symm], rfl⟩
  | cons x _ ih =>
    intro xs e
    match xs, e with
    | a :: as, e =>
      simp only [List.map_cons, List.cons.injEq] at e
      obtain ⟨ls, h1, h2⟩ := ih e.2
      exact ⟨a :: ls, h1.cons a, by rw [h2, e.1]; rfl⟩
  | swap x y l =>
    intro xs e
    match xs, e with
    | a :: b :: as, e =>
      simp only [List.map_cons, List.cons.injEq] at e
      exact ⟨b :: a :: as, List.Perm.swap _ _ _, by rw [e.1, e.2.1, e.2.2]; rfl⟩
    | [a], e => simp at e
  | trans _ _ ih1 ih2 =>
    intro xs e
    obtain ⟨ls, h1, h2⟩ := ih2 e
    obtain ⟨ms, h3, h4⟩ := ih1 h2
    exact ⟨ms, h3.trans h1, h4⟩
abbrev sTriesL : Stmt := top 61
section
variable {P : Program} {w : World} {K : PySem.W.Frag} {mg : Str → Option Value} {base : Heap} {t : Tb} {W : Wl} {n m : Nat} {G H H0 : Hp} {σ : L2.St}
abbrev FMix (P : Program) (w : World) (K : PySem.W.Frag) (mg : Str → Option Value) (base : Heap) (t : Tb) : Prop := Fn P w K mg base CX0 "_law_mixed" 2 2 (spS t lenD prMixed DMixed)
def someL : List Lay := [(.ci, 0), (.ci, 1), (.la, 0), (.la, 1), (.se, 0), (.se, 1), (.wo, 0), (.wo, 1), (.wo, 7)]
abbrev nTriesL : List Str := ["_law_stream_here", "_law_some"]
theorem scTriesL : FnScope nTriesL ["_law_stream_here"] (defScope sTriesL) := ⟨rfl, rfl, rfl, by decide +kernel, rfl, by decide +kernel, by decide +kernel⟩
/-- unlike right layers -/
structure TryLs (ls : List Lay) : Prop where
  len : ls.length ≤ 9
  ok : ∀ l ∈ ls, okLay l
  nd : ls.Nodup
def DTriesL (ds : List PyData) (d : PyData) : Prop := ∃ ls, ds = [] ∧ d = .list (ls.map encL) ∧ TryLs ls
abbrev FTriesL (P : Program) (w : World) (K : PySem.W.Frag) (mg : Str → Option Value) (base : Heap) (t : Tb) : Prop := Fn P w K mg base CX0 "_law_tries" 3 1 (spS t (fun _ => 12) (· = []) DTriesL)
theorem try_of {ls : List Lay} {k : Nat} (h : ls.Perm someL) : TryLs (ls.take k) := by
  have hok : ∀ l ∈ someL, okLay l := by
    intro l hl
    simp only [someL, List.mem_cons, List.not_mem_nil, or_false] at hl
    rcases hl with rfl | rfl | rfl | rfl | rfl | rfl | rfl | rfl | rfl
    iterate 6 exact .inr ⟨by decide, by decide⟩
    iterate 3 exact .inl ⟨rfl, by decide⟩
  have hnd : someL.Nodup := by decide
  refine ⟨?_, fun l hl => hok l (h.mem_iff.mp (List.mem_of_mem_take hl)), (h.nodup_iff.mpr hnd).sublist (List.take_sublist ..)⟩
  have := h.length_eq
  rw [List.length_take, this]
  exact Nat.min_le_right _ _
theorem fn_triesL (D : Df K mg "_law_tries" sTriesL) (FD : FDraw P w K mg base t) (FP : FPick P w K mg base t) (FM : FMix P w K mg base t) : FTriesL P w K mg base t := by
  refine D.fn scTriesL (by rintro vs H Q E ⟨W, G, ds, n, us, ht, rfl, hG, hcl, hw, hl, hd, rfl, kq⟩; have := hd.len; simp at this; simp [this]) rfl (fun _ _ _ _ _ _ us hl => match us, hl with | [_], _ => rfl) fun f cdv A outer s H vs Q E hr hsp => ?_
  obtain ⟨W, G, ds, n, us, rfl, rfl, hG, hcl, hw, hl, hd, rfl, kq⟩ := hsp
  cases hd
  have hl : n + 12 ≤ lim := hl
  have hsz : sizeLine = 16777216 := sizeLine_eq
  refine ⟨_, pss_cons (ps_set (i := 1) scTriesL.nd rfl (.inl rfl) (pe_lst (pa_cons (pe_tup (pa_cons pe_str (pa_cons pe_int pa_nil))) (pa_cons (pe_tup (pa_cons pe_str (pa_cons pe_int pa_nil))) (pa_cons (pe_tup (pa_cons pe_str (pa_cons pe_int pa_nil))) (pa_cons (pe_tup (pa_cons pe_str (pa_cons pe_int pa_nil)))
      (pa_cons (pe_tup (pa_cons pe_str (pa_cons pe_int pa_nil))) (pa_cons (pe_tup (pa_cons pe_str (pa_cons pe_int pa_nil))) (pa_cons (pe_tup (pa_cons pe_str (pa_cons pe_int pa_nil))) (pa_cons (pe_tup (pa_cons pe_str (pa_cons pe_int pa_nil))) (pa_cons (pe_tup (pa_cons pe_str (pa_cons pe_int pa_nil))) pa_nil)))))))))))
    (pss_one (ps_ret (xe_slTo (K := K) (pe_fn FM hr (by rfl) pass0 (pa_cons (pv 0) (pa_cons (pv 1) pa_nil))) (pe_fn FD (hr.mono (by decide)) (by rfl) pass0 (pa_cons (pv 0) (pa_cons (pe_fn FP hr (by rfl) pass0 (pa_cons (pv 0) (pa_cons (pe_lst (pa_cons pe_int (pa_cons pe_int (pa_cons pe_int pa_nil)))) pa_nil))) pa_nil)))))), ?_⟩
  have lay : ∀ (l : Lay) {σ : L2.St}, PR (tTup (tCons (tC (.str l.1.str)) (tCons (tC (.int l.2)) tNil))) σ G (encL l) := fun l σ => PR_tup (PRA_two PR_str PR_int) (by show 2 ≤ sizeLine; omega)
  refine tSet_use (d := .list (someL.map encL)) hG (PR_lst (PRA_cons (lay (.ci, 0)) (PRA_cons (lay (.ci, 1)) (PRA_cons (lay (.la, 0)) (PRA_cons (lay (.la, 1)) (PRA_cons (lay (.se, 0)) (PRA_cons (lay (.se, 1)) (PRA_cons (lay (.wo, 0)) (PRA_cons (lay (.wo, 1)) (PRA_one (lay (.wo, 7))))))))))) (by show 9 ≤ sizeLine; omega)) fun v G1 H1 e1 dv => ?_
  have x1 := e1.w hcl hw
  have hw1 := hw.up e1.hh
  have dv1 := joinG_dq e1.gg dv
  have key : PN W (tSl (rSlL K) (tCall (spS W.t lenD prMixed DMixed) [] E0 (tCons (tVar 0) (tCons (tVar 1) tNil))) tNoPart (tPart (tCall (spS W.t (fun _ => 1) prDraw DDraw) [] E0 (tCons (tVar 0) (tCons (tCall (spS W.t (fun _ => 1) prPick DPick) [] E0 (tCons (tVar 0) (tCons (tLst (tCons (tC (.int 3)) (tCons (tC (.int 5)) (tCons (tC (.int 10)) tNil)))) tNil))) tNil)))))
      [some (.ref W.st), some v] (joinG G G1) ((0 + 9) + (1 + 0 + 1)) (fun d => ∃ ls, d = .list (ls.map encL) ∧ TryLs ls) := by
    refine PN_slTo (D1 := fun d => ∃ ls : List Lay, ls.Perm someL ∧ d = .list (ls.map encL)) (D2 := fun d => ∃ j : Nat, d = .int j) ?_ ?_ fun a b ha hb => ?_
    · refine PN_callS rfl (PNA_of (PRA_one (PV (i := 1) dv1))) fun ds e => ?_
      subst e
      refine ⟨⟨_, rfl, by simp [someL]⟩, by simp [lenD, someL], fun d ⟨xs, ys, e1, e2, hp⟩ => ?_⟩
      cases e1
      obtain ⟨ls, h1, h2⟩ := perm_map hp rfl
      exact ⟨ls, h1, by rw [e2, h2]⟩
    · refine PN_callS (c2 := 1) rfl (PNA_cons (D := fun d => d ∈ [PyData.int 3, .int 5, .int 10]) (PN_pick rfl (PR_lst (PRA_cons PR_int (PRA_two PR_int PR_int)) (by show 3 ≤ sizeLine; omega)) (by simp) (by simp)) PNA_nil) fun ds ⟨a, as, e, ha, e2⟩ => ?_
      subst e e2
      simp only [List.mem_cons, List.not_mem_nil, or_false] at ha
      have : ∃ k : Nat, a = .int k ∧ 0 < k ∧ k ≤ 10 := by
        rcases ha with rfl | rfl | rfl
        · exact ⟨3, rfl, by decide, by decide⟩
        · exact ⟨5, rfl, by decide, by decide⟩
        · exact ⟨10, rfl, by decide, by decide⟩
      obtain ⟨k, rfl, hk, hk2⟩ := this
      exact ⟨⟨k, rfl, hk, by omega⟩, Nat.le_refl _, fun d ⟨_, j, _, e, _⟩ => ⟨j, e⟩⟩
    · obtain ⟨ls, hp, rfl⟩ := ha
      obtain ⟨j, rfl⟩ := hb
      exact ⟨_, j, rfl, rfl, ls.take j, by rw [List.map_take], try_of hp⟩
  refine key H1 n _ x1.gh x1.cl hw1 (by omega) fun d v' G' H' ⟨ls, e, ht⟩ x hw' dv' => ?_
  exact kq d v' G' H' ⟨ls, rfl, e, ht⟩ (x1.trans x) (hw'.mono (by show _ ≤ n + 12; omega)) dv'
end
end K50
set_option Elab.async false
set_option linter.all false
set_option maxRecDepth 100000
set_option maxHeartbeats 4000000
/-! K50x: _law_any_protocol -/
namespace K50
open PySem PySem.Spec PyProof.Rows L2 PD StX RZ NdefX LamX
abbrev sAnyP : Stmt := top 60
section
variable {P : Program} {w : World} {K : PySem.W.Frag} {mg : Str → Option Value} {base : Heap} {t : Tb} {W : Wl} {n m : Nat} {G H H0 : Hp} {σ : L2.St} {c : Nat}
/-- range(e), e may draw -/
theorem WN_range1 {te : TE} {M : Nat} (h : PN W te σ G c (fun d => ∃ m : Nat, d = .int m ∧ m ≤ M)) (hM : M < 2 ^ 62) : WN W (iRng1 (tCons te tNil)) σ G c (fun ds => ∃ m, m ≤ M ∧ ds = (List.range m).map fun i => .int (i : Nat)) := fun H n R hs cl hw hl k => h H n _ hs cl hw hl fun d v G' H' hd x hw' dv => by
  obtain ⟨m, rfl, hm⟩ := hd
  cases dv
  refine ⟨m, rfl, by omega, by omega, k _ _ G' H' ⟨m, hm, rfl⟩ x hw' ⟨?_⟩⟩
  rw [List.length_map, List.length_range, Int.toNat_natCast]
  refine walk_range.mono (fun _ _ => trivial) fun i H2 y H3 hi hs q => ?_
  obtain ⟨rfl, rfl⟩ := q
  refine ⟨.int (i : Nat), by simp [hi], Same.refl _, fun G2 g2 h2 => ⟨G2, .refl h2, ?_⟩⟩
  show Dq G2 (.int (0 + (i : Int))) (.int (i : Nat))
  rw [show (0 : Int) + (i : Int) = (i : Int) from Int.zero_add _]
  exact .int _
abbrev nAnyP : List Str := ["_law_stream_here", "_law_first", "_law_k"]
theorem scAnyP : FnScope nAnyP ["_law_stream_here"] (defScope sAnyP) := ⟨rfl, rfl, rfl, by decide +kernel, rfl, by decide +kernel, by decide +kernel⟩
/-- a drawn step: of which part -/
def StepD (s : Stp) : Prop := FormS s ∧ okS s = true ∧ s.tk.length ≤ 3 ∧ s.pt.length ≤ 3
def DAnyP (ds : List PyData) (d : PyData) : Prop := ∃ ss, ds = [] ∧ d = .tuple [.str "longname", encSS ss] ∧ Right ss ∧ ss.length ≤ 4 ∧ Few 3 ss
abbrev FAnyP (P : Program) (w : World) (K : PySem.W.Frag) (mg : Str → Option Value) (base : Heap) (t : Tb) : Prop := Fn P w K mg base CX0 "_law_any_protocol" 4 1 (spS t (fun _ => 200) (· = []) DAnyP)
/-- _law_step(stream, part, 3) -/
theorem PN_step (Pp : Nat → Prop) {i : Nat} {tp : TE} {c : Nat} {E : XK} (hσ : σ[i]? = some (some (.ref W.st))) (hp : PN W tp σ G c (fun d => ∃ p : Nat, d = .int p ∧ p ≤ 1 ∧ Pp p)) : PN W (tCall (spS W.t (fun _ => 30) prStepL DStepL) [] E (tCons (tVar i) (tCons tp (tCons (tC (.int 3)) tNil)))) σ G (c + 0 + 30) (fun d => ∃ s, d = encS s ∧ StepD s ∧ Pp s.part) :=
  PN_callS (c2 := 30) hσ (PNA_cons hp (PNA_of (PRA_one PR_int))) fun ds ⟨a, as, e, ⟨p, ep, hp1, hpp⟩, e2⟩ => by
    subst e ep e2
    exact ⟨⟨p, 3, rfl, hp1, by decide, by decide⟩, Nat.le_refl _, fun d ⟨p', k', s, e1, e2, e3, e4, e5, e6, e7⟩ => by
      simp only [List.cons.injEq, PyData.int.injEq, and_true] at e1
      have ek : k' = 3 := by have := e1.2; omega
      have epp : p' = p := by have := e1.1; omega
      subst ek epp
      exact ⟨s, e2, ⟨e4, e5, e6, e7⟩, by rw [e3]; exact hpp⟩⟩
theorem wrong_none : ∀ (ss : List Stp) (k : Nat), 0 < k → (∀ s ∈ ss, okS s = true) → wrongFrom k ss = none
  | [], _, _, _ => rfl
  | s :: ss, k, hk, h => by
    rw [wrongFrom, wrongAt, h s (List.mem_cons_self ..), decide_eq_false (by omega)]
    rw [if_neg (by simp)]
    exact wrong_none ss (k + 1) (by omega) fun x hx => h x (List.mem_cons_of_mem _ hx)
/-- a first step and drawn ones behind it -/
theorem right_of {s0 : Stp} {ss : List Stp} (h0 : s0.part = 0) (h1 : s0.tk = []) (h2 : StepD s0) (h : ∀ s ∈ ss, StepD s) (hl : ss.length ≤ 3) : Right (s0 :: ss) ∧ (s0 :: ss).length ≤ 4 ∧ Few 3 (s0 :: ss) := by
  refine ⟨⟨by simp, by simp; omega, fun s hs => ?_, ?_⟩, by simp; omega, fun s hs => ?_⟩
  · rcases List.mem_cons.mp hs with rfl | hs
    · exact h2.1
    · exact (h s hs).1
  · rw [wrongFrom, wrongAt, h2.2.1, h0, h1, if_neg (by simp)]
    exact wrong_none ss 1 (by decide) fun s hs => (h s hs).2.1
  · rcases List.mem_cons.mp hs with rfl | hs
    · exact h2.2.2
    · exact (h s hs).2.2
theorem tAsg_useN {te : TE} {g : TG} {De : Ends} {D' : PyData → Prop} (h : PN W te σ G c D') (hs : Same G H) (cl : Cl W G) (hw : WOk W n H) (hl : n + c ≤ lim) (k : ∀ d v G' H', D' d → ExtW W G H G' H' → WOk W (n + c) H' → Dq G' v d → g v σ H' De.nx) : tAsg te g De σ H := h H n _ hs cl hw hl k
theorem tRet_useN {te : TE} {De : Ends} {D' : PyData → Prop} (h : PN W te σ G c D') (hs : Same G H) (cl : Cl W G) (hw : WOk W n H) (hl : n + c ≤ lim) (k : ∀ d v G' H', D' d → ExtW W G H G' H' → WOk W (n + c) H' → Dq G' v d → De.rt v H') : tRet te De σ H := h H n _ hs cl hw hl k
theorem kp2_steps {as ys : List PyData} (h : Kp2 (fun _ b => ∃ s, b = encS s ∧ StepD s) False as ys) : ∃ ss : List Stp, ys = ss.map encS ∧ (∀ s ∈ ss, StepD s) ∧ ss.length = as.length := by
  induction h with
  | nil => exact ⟨[], rfl, (fun _ h => by cases h), rfl⟩
  | keep h _ ih =>
    obtain ⟨s, rfl, hs⟩ := h
    obtain ⟨ss, e1, e2, e3⟩ := ih
    refine ⟨s :: ss, by rw [e1]; rfl, fun x hx => ?_, by simp [e3]⟩
    rcases List.mem_cons.mp hx with rfl | hx
    · exact hs
    · exact e2 x hx
  | skip h _ _ => exact h.elim
theorem fn_anyP (D : Df K mg "_law_any_protocol" sAnyP) (FD : FDraw P w K mg base t) (FS : FStepL P w K mg base t) (m1 : mg "range" = none) : FAnyP P w K mg base t := by
  refine D.fn scAnyP (by rintro vs H Q E ⟨W, G, ds, n, us, ht, rfl, hG, hcl, hw, hl, hd, rfl, kq⟩; have := hd.len; simp at this; simp [this]) rfl (fun _ _ _ _ _ _ us hl => match us, hl with | [_], _ => rfl) fun f cdv A outer s H vs Q E hr hsp => ?_
  obtain ⟨W, G, ds, n, us, rfl, rfl, hG, hcl, hw, hl, hd, rfl, kq⟩ := hsp
  cases hd
  have hl : n + 200 ≤ lim := hl
  have hsz : sizeLine = 16777216 := sizeLine_eq
  refine ⟨_, pss_cons (ps_set (i := 1) scAnyP.nd rfl (.inl rfl) (pe_tup (pa_cons pe_int (pa_cons (pe_lst pa_nil) (pa_cons (xe_ixT (K := K) (pe_fn FS hr (by rfl) pass0 (pa_cons (pv 0) (pa_cons pe_int (pa_cons pe_int pa_nil)))) pe_int) pa_nil)))))
    (pss_one (ps_ret (pe_tup (pa_cons pe_str (pa_cons (pe_op op_cat (pe_lst (pa_cons (pv 1) pa_nil)) (xe_lc1 (tt := tYes) nAnyP (defScope sAnyP) 2 (pi_range1 rfl m1 (pa_cons (pe_fn FD (hr.mono (by decide)) (by rfl) pass0 (pa_cons (pv 0) (pa_cons pe_int pa_nil))) pa_nil)) (by decide +kernel) scAnyP.nd (.inr rfl) (fun _ _ _ _ _ => pts_nil)
      (fun _ _ _ _ _ => pe_fn FS hr (by rfl) pass0 (pa_cons (pv 0) (pa_cons (pe_fn FD (hr.mono (by decide)) (by rfl) pass0 (pa_cons (pv 0) (pa_cons pe_int pa_nil))) (pa_cons pe_int pa_nil)))))) pa_nil))))), ?_⟩
  have key1 : PN W (tTup (tCons (tC (.int 0)) (tCons (tLst tNil) (tCons (tOp (rIxT K) (tCall (spS W.t (fun _ => 30) prStepL DStepL) [] E0 (tCons (tVar 0) (tCons (tC (.int 0)) (tCons (tC (.int 3)) tNil)))) (tC (.int 2))) tNil)))) [some (.ref W.st), none, none] G (0 + (0 + ((0 + 0 + 30 + 0) + 0)))
      (fun d => ∃ s, d = encS s ∧ s.part = 0 ∧ s.tk = [] ∧ StepD s) := by
    refine PN_tup (PNA_cons (PN_of PR_int) (PNA_cons (PN_of (PR_lst PRA_nil (by show 0 ≤ sizeLine; omega))) (PNA_cons (D := fun d => ∃ s, d = .list (s.pt.map encL) ∧ StepD s ∧ s.part = 0) (PN_op (D1 := fun d => ∃ s, d = encS s ∧ StepD s ∧ s.part = 0) (D2 := (· = .int 2)) (fun a b ha hb => ?_) (PN_step (· = 0) rfl ((PN_of PR_int).imp (Nat.le_refl _) fun d e => ⟨0, e, by decide, rfl⟩)) (PN_of PR_int)) PNA_nil))) fun ds ⟨a, as, e1, e2, b, bs, e3, e4, c, cs, e5, ⟨s, e6, hs, hs0⟩, e7⟩ => ?_
    · obtain ⟨s, rfl, hs⟩ := ha
      subst hb
      exact ⟨_, ⟨s, rfl, hs⟩, RR2_ixT (j := 2) rfl⟩
    · subst e1 e2 e3 e4 e5 e6 e7
      refine ⟨by show 3 ≤ sizeLine; omega, ⟨0, [], s.pt⟩, rfl, rfl, rfl, ⟨Nat.zero_le _, ⟨by simp, (fun l h => by cases h)⟩, hs.1.2.2⟩, ?_, by simp, hs.2.2.2⟩
      have := hs.2.1
      unfold okS at this ⊢
      rw [hs0, Bool.and_eq_true] at this
      rw [this.2]; rfl
  refine tAsg_useN key1 hG hcl hw (by omega) fun d v1 G1 H1 ⟨s0, e0, hp0, ht0, hs0⟩ x1 hw1 d1 => ?_
  subst e0
  have key2 : PN W (tTup (tCons (tC (.str "longname")) (tCons (tOp rCat (tLst (tCons (tVar 1) tNil)) (tLc (iRng1 (tCons (tCall (spS W.t (fun _ => 1) prDraw DDraw) [] E0 (tCons (tVar 0) (tCons (tC (.int 4)) tNil))) tNil)) (gName 2) tYes (tCall (spS W.t (fun _ => 30) prStepL DStepL) [] E0 (tCons (tVar 0) (tCons (tCall (spS W.t (fun _ => 1) prDraw DDraw) [] E0 (tCons (tVar 0) (tCons (tC (.int 2)) tNil))) (tCons (tC (.int 3)) tNil)))) [2])) tNil)))
      [some (.ref W.st), some v1, none] G1 (0 + ((0 + 120) + 0)) (fun d => ∃ ss : List Stp, d = .tuple [.str "longname", encSS (s0 :: ss)] ∧ (∀ s ∈ ss, StepD s) ∧ ss.length ≤ 3) := by
    refine PN_tup (PNA_cons (PN_of PR_str) (PNA_cons (D := fun d => ∃ ss : List Stp, d = encSS (s0 :: ss) ∧ (∀ s ∈ ss, StepD s) ∧ ss.length ≤ 3) (PN_op (D1 := (· = .list [encS s0])) (D2 := fun d => ∃ ss : List Stp, d = .list (ss.map encS) ∧ (∀ s ∈ ss, StepD s) ∧ ss.length ≤ 3) (fun a b ha hb => ?_) (PN_of (PR_lst (PRA_one (PV (i := 1) d1)) (by show 1 ≤ sizeLine; omega)))
      (PN_lc1 (e1 := fun _ => 0) (e2 := fun _ => 31) (sk := False) (WN_range1 (M := 3) ((PN_draw (m := 4) rfl PR_int (by decide) (by decide)).imp (Nat.le_refl _) fun d ⟨j, e, hj⟩ => ⟨j, e, by omega⟩) (by decide)) (fun _ => rfl) (fun ds _ G2 d v g hd dv cl => ⟨TN_yes.imp (Nat.le_refl _) (fun b e h => by rw [e] at h; cases h), (PN_step (fun _ => True) rfl (PN.imp (D' := fun d => ∃ p : Nat, d = .int p ∧ p ≤ 1 ∧ True) (PN_draw (m := 2) rfl PR_int (by decide) (by decide)) (Nat.le_refl _) fun d ⟨j, e, hj⟩ => ⟨j, e, by omega, trivial⟩)).imp (D' := fun b => ∃ s, b = encS s ∧ StepD s) (Nat.le_refl _) fun d ⟨s, e, h, _⟩ => ⟨s, e, h⟩⟩) (by omega) (fun ds ⟨m, hm, e⟩ => ?_) (fun ds ys ⟨m, hm, e⟩ hk => ?_))) PNA_nil)) fun ds ⟨a, as, e1, e2, b, bs, e3, ⟨ss, e4, h1, h2⟩, e5⟩ => ?_
    · obtain ⟨ss, rfl, h1, h2⟩ := hb
      subst ha
      exact ⟨_, ⟨ss, rfl, h1, h2⟩, RR2_cat (by simp; omega)⟩
    · subst e
      have : sumC (fun d => 0 + 31) ((List.range m).map fun i => PyData.int (i : Nat)) = m * 31 := by
        have h : ∀ l : List PyData, sumC (fun _ => 0 + 31) l = l.length * 31 := fun l => by
          induction l with
          | nil => rfl
          | cons a l ih => rw [sumC, ih, List.length_cons]; omega
        rw [h]; simp
      refine ⟨?_, by simp; omega⟩
      rw [this]; omega
    · subst e
      obtain ⟨ss, q1, q2, q3⟩ := kp2_steps hk
      exact ⟨ss, by rw [q1], q2, by rw [q3]; simpa using hm⟩
    · subst e1 e2 e3 e4 e5
      exact ⟨by show 2 ≤ sizeLine; omega, ss, rfl, h1, h2⟩
  refine tRet_useN key2 x1.gh x1.cl hw1 (by omega) fun d v' G' H' ⟨ss, e, h1, h2⟩ x hw' dv' => ?_
  have hr := right_of hp0 ht0 hs0 h1 h2
  exact kq d v' G' H' ⟨s0 :: ss, rfl, e, hr.1, hr.2.1, hr.2.2⟩ (x1.trans x) (hw'.mono (by show _ ≤ n + 200; omega)) dv'
end
end K50
set_option Elab.async false
set_option linter.all false
set_option maxRecDepth 100000
set_option maxHeartbeats 4000000
/-! K50y: _law_is_mend -/
namespace K50
open PySem PySem.Spec PyProof.Rows L2 PD StX RZ
abbrev sIsMend : Stmt := top 62
/-! ### a layer as the law sees it -/
def kinds4 : List Str := ["cipher", "label", "seal", "word"]
def k4D : PyData → Bool
  | .str x => kinds4.any fun z => decide (z = x)
  | _ => false
def topD (y : PyData) : Int := if isStr "word" (at_ y 0) = true then 10 else 2
def lawPl (y : PyData) : Bool := rowD 2 y && (k4D (at_ y 0) && (numD (at_ y 1) && decide (valD (at_ y 1) < topD y)))
theorem k4_iff (a : PyData) : k4D a = (isStr "word" a || kindD a) := by
  cases a with
  | str x =>
    simp only [k4D, kinds4, isStr, kindD, kinds, List.any_cons, List.any_nil, Bool.or_false]
    rw [show decide (x = ("word" : Str)) = decide (("word" : Str) = x) from decide_eq_decide.mpr eq_comm]
    cases decide (("cipher" : Str) = x) <;> cases decide (("label" : Str) = x) <;> cases decide (("seal" : Str) = x) <;> cases decide (("word" : Str) = x) <;> rfl
  | _ => rfl
theorem word_kind {a : PyData} (h : isStr "word" a = true) : kindD a = false := by
  rw [isStr_of h]; decide +kernel
theorem btw_num (hi : Int) (a : PyData) : btw 0 hi a = (numD a && decide (valD a ≤ hi)) := by
  cases a <;> rfl
theorem lawPl_eq (y : PyData) : lawPl y = plD y := by
  unfold lawPl plD wordD topD
  rw [k4_iff, btw_num, btw_num]
  cases hw : isStr "word" (at_ y 0) with
  | true =>
    rw [word_kind hw, if_pos rfl]
    have e : decide (valD (at_ y 1) < 10) = decide (valD (at_ y 1) ≤ 9) := decide_eq_decide.mpr (by omega)
    rw [e]
    cases rowD 2 y <;> cases numD (at_ y 1) <;> simp
  | false =>
    rw [if_neg (by decide)]
    have e : decide (valD (at_ y 1) < 2) = decide (valD (at_ y 1) ≤ 1) := decide_eq_decide.mpr (by omega)
    rw [e]
    cases rowD 2 y <;> cases kindD (at_ y 0) <;> cases numD (at_ y 1) <;> simp
section
variable {P : Program} {w : World} {K : PySem.W.Frag} {mg : Str → Option Value} {base : Heap}
abbrev nIsMend : List Str := ["_law_steps", "_law_thing", "_law_word", "_law_index", "_law_place", "_law_more", "_law_most"]
theorem scIsMend : FnScope nIsMend ["_law_steps", "_law_thing"] (defScope sIsMend) := ⟨rfl, rfl, rfl, by decide +kernel, rfl, by decide +kernel, by decide +kernel⟩
def MendIs (ss : List Stp) (a : PyData) (b : Bool) : Prop := (formD ss a = false ∧ b = false) ∨ ∃ m, FormM ss m ∧ LzM a m ∧ b = decide (wrongFrom 0 (mendS ss m) = none)
def DIsMend (ds : List PyData) (d : PyData) : Prop := ∃ (ss : List Stp) (a : PyData) (b : Bool), ds = [encSS ss, a] ∧ d = .bool b ∧ MendIs ss a b ∧ Right ss ∧ Few 999 ss ∧ Obj 10 a
abbrev FIsMend (P : Program) (w : World) (K : PySem.W.Frag) (mg : Str → Option Value) (base : Heap) : Prop := Fn P w K mg base CX0 "_law_is_mend" 3 2 (spP DIsMend)
/-! ### a shift of right steps is right -/
theorem wrongFrom_none : ∀ (ss : List Stp) (k : Nat), wrongFrom k ss = none ↔ ∀ (i : Nat) (s : Stp), ss[i]? = some s → wrongAt (k + i) s = false
  | [], _ => ⟨fun _ i s h => by simp at h, fun _ => rfl⟩
  | s :: ss, k => by
    rw [wrongFrom]
    constructor
    · intro h i s' hi
      cases hb : wrongAt k s with
      | true => rw [hb, if_pos rfl] at h; cases h
      | false =>
        rw [hb, if_neg (by decide)] at h
        cases i with
        | zero =>
          simp only [List.getElem?_cons_zero, Option.some.injEq] at hi
          rw [← hi]; exact hb
        | succ i =>
          have := (wrongFrom_none ss (k + 1)).mp h i s' (by simpa using hi)
          rw [show k + (i + 1) = k + 1 + i from by omega]; exact this
    · intro h
      have h0 : wrongAt k s = false := h 0 s rfl
      rw [h0, if_neg (by decide)]
      exact (wrongFrom_none ss (k + 1)).mpr fun i s' hi => by
        have := h (i + 1) s' (by simpa using hi)
        rw [show k + 1 + i = k + (i + 1) from by omega]; exact this
theorem getD_mem {α : Type} {ls : List α} {p : Nat} {d : α} (hp : p < ls.length) : ls.getD p d ∈ ls := by
  rw [List.getD_eq_getElem?_getD, List.getElem?_eq_getElem hp]
  exact List.getElem_mem hp
/-- no layer more -/
theorem shift_mem {ls : List Lay} {i p t : Nat} (hp : p < ls.length) {x : Lay} (h : x ∈ withL ls (.shift i p t)) : x ∈ ls := by
  rcases withL_mem h hp with h | ⟨i', p', e⟩
  · exact h
  · cases e
theorem hasL_iff {ls : List Lay} {l : Lay} : hasL ls l = true ↔ l ∈ ls := by
  unfold hasL
  rw [List.any_eq_true]
  constructor
  · rintro ⟨x, hx, e⟩
    rw [← of_decide_eq_true e]; exact hx
  · intro h
    exact ⟨l, h, decide_eq_true rfl⟩
theorem okS_sub {s s' : Stp} (h : okS s = true) (hp : s'.part = s.part) (ht : ∀ x ∈ s'.tk, x ∈ s.tk) (hq : ∀ x ∈ s'.pt, x ∈ s.pt) : okS s' = true := by
  unfold okS at h ⊢
  rw [hp]
  simp only [Bool.and_eq_true, Bool.not_eq_true', ← Bool.not_eq_true, hasL_iff] at h ⊢
  exact ⟨fun z => h.1 (ht _ z), fun z => h.2 (hq _ z)⟩
theorem shift_right {ss : List Stp} {i p t : Nat} (hR : wrongFrom 0 ss = none) (hf : FormM ss (.shift i p t)) : wrongFrom 0 (mendS ss (.shift i p t)) = none := by
  rw [wrongFrom_none] at hR ⊢
  have fits := FormM.fits hf
  intro j s hj
  have hl : j < (mendS ss (.shift i p t)).length := (List.getElem?_eq_some_iff.mp hj).1
  rw [mendS_len] at hl
  have key : ∃ s0, ss[j]? = some s0 ∧ s.part = s0.part ∧ (∀ x ∈ s.tk, x ∈ s0.tk) ∧ (∀ x ∈ s.pt, x ∈ s0.pt) ∧ (j = 0 → s.tk = s0.tk) := by
    refine ⟨_, stp_at hl, ?_⟩
    have ix : i < ss.length := fits.ix
    have hpt : p < (stp ss i).pt.length := fits.pt
    have hm : (mendAt ss (.shift i p t))[j]? = some (if i = j then ⟨(stp ss i).part, (stp ss i).tk, withL (stp ss i).pt (.shift i p t)⟩ else stp ss j) := by
      show (ss.set i ⟨(stp ss i).part, (stp ss i).tk, withL (stp ss i).pt (.shift i p t)⟩)[j]? = _
      rw [List.getElem?_set]
      by_cases e : i = j
      · rw [if_pos e, if_pos e, if_pos (by omega)]
      · rw [if_neg e, if_neg e, stp_at hl]
    rw [mendS] at hj
    by_cases hn : i + 1 < ss.length
    · rw [if_pos (show (Mnd.shift i p t).ix + 1 < ss.length from hn)] at hj
      by_cases e : i + 1 = j
      · subst e
        rw [List.getElem?_set, if_pos (show (Mnd.shift i p t).ix + 1 = i + 1 from rfl), if_pos (by show _ < (ss.set _ _).length; rw [List.length_set]; exact hn)] at hj
        have hj := Option.some.inj hj
        have e1 : stp (mendAt ss (.shift i p t)) (i + 1) = stp ss (i + 1) := mendAt_next ss (.shift i p t)
        have htk : p < (stp ss (i + 1)).tk.length := fits.tk hn
        subst hj
        refine ⟨rfl, fun x hx => shift_mem (i := i) htk hx, fun x hx => hx, fun e => by omega⟩
      · rw [List.getElem?_set, if_neg (show ¬ (Mnd.shift i p t).ix + 1 = j from e), hm] at hj
        have hj := Option.some.inj hj
        by_cases e2 : i = j
        · subst e2
          rw [if_pos rfl] at hj
          subst hj
          exact ⟨rfl, fun x hx => hx, fun x hx => shift_mem (i := i) hpt hx, fun _ => rfl⟩
        · rw [if_neg e2] at hj
          subst hj
          exact ⟨rfl, fun x hx => hx, fun x hx => hx, fun _ => rfl⟩
    · rw [if_neg (show ¬ (Mnd.shift i p t).ix + 1 < ss.length from hn), hm] at hj
      have hj := Option.some.inj hj
      by_cases e2 : i = j
      · subst e2
        rw [if_pos rfl] at hj
        subst hj
        exact ⟨rfl, fun x hx => hx, fun x hx => shift_mem (i := i) hpt hx, fun _ => rfl⟩
      · rw [if_neg e2] at hj
        subst hj
        exact ⟨rfl, fun x hx => hx, fun x hx => hx, fun _ => rfl⟩
  obtain ⟨s0, h0, hp, ht, hq, he⟩ := key
  have w := hR j s0 h0
  unfold wrongAt at w ⊢
  rw [Bool.or_eq_false_iff] at w ⊢
  obtain ⟨w1, w2⟩ := w
  refine ⟨by rw [okS_sub (by simpa using w1) hp ht hq]; rfl, ?_⟩
  rw [Bool.and_eq_false_iff] at w2 ⊢
  rcases w2 with w2 | w2
  · exact .inl w2
  · by_cases e : j = 0
    · right; rw [hp, he e]; exact w2
    · left; rw [decide_eq_false]; omega
theorem PR_notin4 {σ : L2.St} {G : Hp} {te : TE} {s a b c d : Str} (h : PR te σ G (.str s)) : PR (tOp (rIn K true) te (tTup (tCons (tC (.str a)) (tCons (tC (.str b)) (tCons (tC (.str c)) (tCons (tC (.str d)) tNil)))))) σ G (.bool (!([a, b, c, d].any fun z => decide (z = s)))) :=
  PR_op (RR2_notinT (ss := [a, b, c, d])) h (PR_tup (PRA_cons PR_str (PRA_cons PR_str (PRA_two PR_str PR_str))) (by show 4 ≤ sizeLine; rw [sizeLine_eq]; omega))
theorem fn_isMend (D : Df K mg "_law_is_mend" sIsMend) (FN : FNumL P w K mg base) (FO : FRoomL P w K mg base) (FM : FMendL P w K mg base) (m1 : mg "isinstance" = none) (m2 : mg "list" = none) (m3 : mg "tuple" = none) (m4 : mg "len" = none) (m5 : mg "str" = none) (m6 : mg "max" = none) : FIsMend P w K mg base := by
  refine D.pure scIsMend (by rintro ds d ⟨ss, i, b, rfl, _⟩; rfl) rfl (fun _ _ _ _ _ _ us hl => match us, hl with | [_, _], _ => rfl) fun f cdv A outer s0 H E G vs ds d Q hr hG hv hD k => ?_
  obtain ⟨ss, a, b, rfl, rfl, hb, hR, hW, ho⟩ := hD
  obtain ⟨v, u, rfl, dv, du⟩ := hv.two
  have hr1 : Room 1 _ := hr.mono (by decide : 1 ≤ 2)
  refine ⟨_, pss_cons (ps_if (PW.pt (pw_or (pt_not (pt_val (xe_isi2 (K := K) (U := "list") (U' := "tuple") m1 m2 m3 (by decide +kernel) (by decide +kernel) (pv 1)))) (pw_or (pt_cmpR op_ne (xe_len (K := K) m4 (pv 1)) pe_int (nomark _)) (pw_or1 (pt_not (pt_val (xe_isi (K := K) (U := "str") m1 m5 (by decide +kernel) (xe_item (K := K) (pv 1) pe_int)))))))) (pss_one (ps_ret pe_bl)) pss_nil)
    (pss_cons (ps_asg (pv 1) (pg4 (K := K) rfl (pg_name (i := 2) scIsMend.nd rfl (.inl rfl)) (pg_name (i := 3) scIsMend.nd rfl (.inl rfl)) (pg_name (i := 4) scIsMend.nd rfl (.inl rfl)) (pg_name (i := 5) scIsMend.nd rfl (.inl rfl))))
    (pss_cons (ps_if (PW.pt (pw_or (xt_notinS (K := K) (pv 2) (pe_tup (pa_cons pe_str (pa_cons pe_str pa_nil)))) (pw_or (pt_not (pt_val (pe_fn FN hr1 (by rfl) pass0 (pa_cons (pv 3) pa_nil)))) (pw_or (pt_cmpR op_ge (pv 3) (xe_len (K := K) m4 (pv 0)) (nomark _)) (pw_or1 (pt_not (pt_val (pe_fn FN hr1 (by rfl) pass0 (pa_cons (pv 4) pa_nil))))))))) (pss_one (ps_ret pe_bl)) pss_nil)
    (pss_cons (ps_set (i := 6) scIsMend.nd rfl (.inl rfl) (pe_fn FO hr1 (by rfl) pass0 (pa_cons (pv 0) (pa_cons (pv 3) pa_nil))))
    (pss_cons (ps_if (pt_cmpR op_eq (pv 2) pe_str (nomark _)) (pss_one (ps_ret (pe_and (pe_fn FN hr1 (by rfl) pass0 (pa_cons (pv 5) pa_nil)) (pe_and (pe_cmpR op_ne (pv 4) (pv 5) (nomark _)) (pe_one (pe_cmpR op_lt (pe_callB (call_max2 rfl) rfl m6 (by decide +kernel) (pa_cons (pv 4) (pa_cons (pv 5) pa_nil))) (pv 6) (nomark _))))))) pss_nil)
    (pss_cons (ps_if (PW.pt (pw_or (pt_cmpR op_gt (pv 4) (pv 6) (nomark _)) (pw_or (pt_not (pt_val (xe_isi2 (K := K) (U := "list") (U' := "tuple") m1 m2 m3 (by decide +kernel) (by decide +kernel) (pv 5)))) (pw_or (pt_cmpR op_ne (xe_len (K := K) m4 (pv 5)) pe_int (nomark _)) (pw_or1 (pt_not (pt_val (xe_isi (K := K) (U := "str") m1 m5 (by decide +kernel) (xe_item (K := K) (pv 5) pe_int))))))))) (pss_one (ps_ret pe_bl)) pss_nil)
    (pss_cons (ps_if (PW.pt (pw_or (xt_notinS (K := K) (xe_item (K := K) (pv 5) pe_int) (pe_tup (pa_cons pe_str (pa_cons pe_str (pa_cons pe_str (pa_cons pe_str pa_nil)))))) (pw_or1 (pt_not (pt_val (pe_fn FN hr1 (by rfl) pass0 (pa_cons (xe_item (K := K) (pv 5) pe_int) pa_nil))))))) (pss_one (ps_ret pe_bl)) pss_nil)
    (pss_one (ps_ret (pe_and (pe_cmpR op_lt (xe_item (K := K) (pv 5) pe_int) (pe_ifExp (pt_cmpR op_eq (xe_item (K := K) (pv 5) pe_int) pe_str (nomark _)) pe_int pe_int) (nomark _)) (pe_one (pe_cmpR op_notN (pe_fn FM hr (by rfl) pass0 (pa_cons (pv 0) (pa_cons (pe_tup (pa_cons (pv 2) (pa_cons (pv 3) (pa_cons (pv 4) (pa_cons (xe_tuple (K := K) m3 (pv 5)) pa_nil))))) pa_nil))) pe_non (nomark _)))))))))))), ?_⟩
  have kitm : ∀ {σ : L2.St} {G1 : Hp} {te : TE} {y : PyData}, PR te σ G1 y → Pln y → PR (tCB (rIsiT K) (tCons te (tCons (tTup (tCons (tC (.ty "list")) (tCons (tC (.ty "tuple")) tNil))) tNil))) σ G1 (.bool (isSeq y)) := fun h hp => (PR_isi2 h (kitL _) (kitT _) hp).eq (by rw [isSeq_eq])
  have row_of : ∀ {y : PyData} {n : Nat}, isSeq y = true → decide (((itemsD y).length : Int) ≠ (n : Int)) = false → rowD n y = true := fun h1 h2 => by
    unfold rowD
    rw [h1, decide_eq_true]
    · rfl
    · have := of_decide_eq_false h2; omega
  refine tIf_use (b := !(rowD 4 a && isS (at_ a 0))) (TR.eq (b := !isSeq a || (decide (((itemsD a).length : Int) ≠ (4 : Nat)) || !isS (at_ a 0))) (TR_or (TR_not (TR_tB (kitm (PV (i := 1) du) ho.plain))) fun h1 => TR_or (TR_test (PR_op RR2_neI (PR_len (PV (i := 1) du) (by simpa using h1)) PR_int)) fun h2 => ?_) ?_) hG fun H1 e1 => ?_
  · have h4 : rowD 4 a = true := row_of (by simpa using h1) h2
    exact TR_not (TR_tB (PR_isi (PR_it 0 (PV (i := 1) du) h4) (kitS _) (shPlain (ho.at h4 (by decide)))))
  · unfold rowD
    have : decide (((itemsD a).length : Int) ≠ (4 : Nat)) = !decide ((itemsD a).length = 4) := by
      rw [← decide_not]; exact decide_eq_decide.mpr (by omega)
    rw [this]
    cases isSeq a <;> cases decide ((itemsD a).length = 4) <;> rfl
  -- what is none
  have no : formD ss a = false → b = false := fun hf => by
    rcases hb with ⟨_, h⟩ | ⟨m, h1, h2, _⟩
    · exact h
    · rw [formD_of h1 h2] at hf; cases hf
  have kf : ∀ {G' H' H2 : Hp} {σ : L2.St} , Ext G H G' H' → Same H' H2 → formD ss a = false → tRet (tC (.bl false)) { nx := fun _ H' => Q .non H', rt := Q } σ H2 := fun {G' H' H2 σ} x e hf =>
    tRet_bl (x.gh.trans e) fun v G3 H3 x3 dv => k v G3 H3 (x.trans ((Ext.more x.gh e).trans x3)) (by rw [no hf]; exact dv)
  cases h1 : rowD 4 a && isS (at_ a 0) with
  | false => exact iteT (kf (.refl hG) e1 (by
      unfold formD f1D
      cases hr4 : rowD 4 a with
      | false => rfl
      | true =>
        rw [hr4] at h1
        revert h1
        generalize at_ a 0 = y
        intro h1
        cases y <;> first | rfl | cases h1))
  | true =>
    refine iteF (nxt ?_)
    rw [Bool.and_eq_true] at h1
    obtain ⟨h4, hs0⟩ := h1
    have o0 := ho.at h4 (j := 0) (by decide)
    have o1 := ho.at h4 (j := 1) (by decide)
    have o2 := ho.at h4 (j := 2) (by decide)
    have o3 := ho.at h4 (j := 3) (by decide)
    have hrow := row4 h4
    refine tSetP_use (hG.trans e1) (PV (i := 1) du) (gp4 hrow) fun σ' G2 H2 e2 ⟨u2, u3, u4, u5, d2, d3, d4, d5, eσ⟩ => ?_
    subst eσ
    have x2 := (Ext.more hG e1).trans e2
    have fsplit : formD ss a = (mwD (at_ a 0) && (f2D ss a && f3D ss a)) := by unfold formD f1D; rw [h4]; rfl
    unfold f2D f3D mostD at fsplit
    generalize at_ a 0 = y0 at *
    generalize at_ a 1 = y1 at *
    generalize at_ a 2 = y2 at *
    generalize at_ a 3 = y3 at *
    obtain ⟨x0, rfl⟩ : ∃ x : Str, y0 = .str x := by cases y0 <;> first | exact ⟨_, rfl⟩ | cases hs0
    refine tIf_use (b := !(mwD (.str x0) && (numD y1 && (decide (valD y1 < ss.length) && numD y2)))) (TR.eq (b := !mwD (.str x0) || (!numD y1 || (decide ((ss.length : Int) ≤ valD y1) || !numD y2))) (TR_or (TR_test (PR_notinT (PV (i := 2) d2))) fun g0 => TR_or (TR_not (TR_tB (PR_call (PRA_one (PV (i := 3) d3)) ⟨_, rfl, rfl, shPlain o1⟩))) fun g1 => TR_or ?_ fun _ => TR_not (TR_tB (PR_call (PRA_one (PV (i := 4) d4)) ⟨_, rfl, rfl, shPlain o2⟩))) ?_) e2.gh fun H3 e3 => ?_
    · obtain ⟨n, en⟩ := num_of (a := y1) (by simpa using g1)
      subst en
      exact TR_test (PR_op RR2_geI (PV (i := 3) d3) (lenSS (PV (i := 0) (dv.up x2.gg))))
    · have e : decide ((ss.length : Int) ≤ valD y1) = !decide (valD y1 < ss.length) := by
        rw [← decide_not]
        exact decide_eq_decide.mpr (by omega)
      rw [e]
      cases mwD (.str x0) <;> cases numD y1 <;> cases numD y2 <;> simp
    cases h2 : mwD (.str x0) && (numD y1 && (decide (valD y1 < ss.length) && numD y2)) with
    | false => exact iteT (kf x2 e3 (by
        rw [fsplit]
        revert h2
        cases mwD (.str x0) <;> cases numD y1 <;> cases decide (valD y1 < ss.length) <;> cases numD y2 <;> simp))
    | true =>
      refine iteF (nxt ?_)
      simp only [Bool.and_eq_true, decide_eq_true_eq] at h2
      obtain ⟨g0, g1, g2, g3⟩ := h2
      obtain ⟨n, en⟩ := num_of g1
      subst en
      obtain ⟨p, ep⟩ := num_of g3
      subst ep
      have g2' : n < ss.length := by have : (n : Int) < ss.length := g2; omega
      rw [g0, g1, g3, decide_eq_true g2] at fsplit
      have fsplit : formD ss a = (if isStr "add" (.str x0) = true then decide ((p : Int) ≤ roomS ss n) && plD y3 else numD y3 && (decide ((p : Int) < roomS ss n) && (decide (valD y3 < roomS ss n) && decide ((p : Int) ≠ valD y3)))) := fsplit
      have x3 := x2.trans (Ext.more x2.gh e3)
      have dv3 := dv.up x3.gg
      refine tSet_use x3.gh (PR_call (PRA_two (PV (i := 0) dv3) (PV (i := 3) d3)) ⟨ss, n, rfl, rfl, g2'⟩) fun vm G4 H4 e4 dm => ?_
      have x4 := x3.trans e4
      have d2' := d2.up e4.gg
      have d3' := d3.up e4.gg
      have d4' := d4.up e4.gg
      have d5' := d5.up e4.gg
      have dv4 := dv.up x4.gg
      refine tIf_use (b := isStr "shift" (.str x0)) (TR_test (PR_op RR2_eqS (PV (i := 2) d2') PR_str)) e4.gh fun H5 e5 => ?_
      have x5 := x4.trans (Ext.more x4.gh e5)
      rcases mw_of g0 with ex | ex
      · -- add
        rw [PyData.str.injEq] at ex
        subst ex
        rw [show isStr "shift" (.str "add") = false from by decide +kernel]
        refine iteF (nxt ?_)
        rw [if_pos (by decide +kernel), ← lawPl_eq] at fsplit
        dsimp only
        refine tIf_use (b := !(decide ((p : Int) ≤ roomS ss n) && (rowD 2 y3 && isS (at_ y3 0)))) (TR.eq (b := decide ((roomS ss n : Int) < p) || (!isSeq y3 || (decide (((itemsD y3).length : Int) ≠ (2 : Nat)) || !isS (at_ y3 0)))) (TR_or (TR_test (PR_op RR2_gtI (PV (i := 4) d4') (PV (i := 6) dm))) fun _ => TR_or (TR_not (TR_tB (kitm (PV (i := 5) d5') (shPlain o3)))) fun q1 => TR_or (TR_test (PR_op RR2_neI (PR_len (PV (i := 5) d5') (by simpa using q1)) PR_int)) fun q2 => ?_) ?_) x5.gh fun H6 e6 => ?_
        · have h4 : rowD 2 y3 = true := row_of (by simpa using q1) q2
          exact TR_not (TR_tB (PR_isi (PR_it 0 (PV (i := 5) d5') h4) (kitS _) (shPlain ((Sh.obj o3).at h4 (by decide)))))
        · unfold rowD
          have e1 : decide (((itemsD y3).length : Int) ≠ (2 : Nat)) = !decide ((itemsD y3).length = 2) := by
            rw [← decide_not]; exact decide_eq_decide.mpr (by omega)
          have e2 : decide ((roomS ss n : Int) < p) = !decide ((p : Int) ≤ roomS ss n) := by
            rw [← decide_not]; exact decide_eq_decide.mpr (by omega)
          rw [e1, e2]
          cases decide ((p : Int) ≤ roomS ss n) <;> cases isSeq y3 <;> cases decide ((itemsD y3).length = 2) <;> rfl
        have x6 := x5.trans (Ext.more x5.gh e6)
        cases q : decide ((p : Int) ≤ roomS ss n) && (rowD 2 y3 && isS (at_ y3 0)) with
        | false => exact iteT (kf x5 e6 (by
            rw [fsplit]
            unfold lawPl
            revert q
            cases decide ((p : Int) ≤ roomS ss n) <;> cases rowD 2 y3 <;> first | (intro _; rfl) | skip
            generalize at_ y3 0 = z
            intro q
            cases z <;> first | rfl | cases q))
        | true =>
          refine iteF (nxt ?_)
          rw [Bool.and_eq_true, Bool.and_eq_true] at q
          obtain ⟨q1, q2, q3⟩ := q
          rw [q1, Bool.true_and] at fsplit
          unfold lawPl at fsplit
          rw [q2, Bool.true_and] at fsplit
          have i0 := PR_it (K := K) 0 (PV (σ := [some v, some u, some u2, some u3, some u4, some u5, some vm]) (i := 5) d5') q2
          have i1 := PR_it (K := K) 1 (PV (σ := [some v, some u, some u2, some u3, some u4, some u5, some vm]) (i := 5) d5') q2
          have p1 := shPlain ((Sh.obj o3).at q2 (j := 1) (by decide))
          have hy := row2 q2
          unfold topD at fsplit
          generalize at_ y3 0 = z0 at *
          generalize at_ y3 1 = z1 at *
          obtain ⟨zx, rfl⟩ : ∃ x : Str, z0 = .str x := by cases z0 <;> first | exact ⟨_, rfl⟩ | cases q3
          refine tIf_use (b := !(k4D (.str zx) && numD z1)) (TR.eq (b := !k4D (.str zx) || !numD z1) (TR_or (TR_test (PR_notin4 i0)) fun _ => TR_not (TR_tB (PR_call (PRA_one i1) ⟨_, rfl, rfl, p1⟩))) (by cases k4D (.str zx) <;> rfl)) x6.gh fun H7 e7 => ?_
          have x7 := x6.trans (Ext.more x6.gh e7)
          cases w : k4D (.str zx) && numD z1 with
          | false => exact iteT (kf x6 e7 (by
              rw [fsplit]
              revert w
              cases k4D (.str zx) <;> cases numD z1 <;> simp))
          | true =>
            refine iteF (nxt ?_)
            rw [Bool.and_eq_true] at w
            obtain ⟨w1, w2⟩ := w
            obtain ⟨j, ej⟩ := num_of w2
            subst ej
            rw [w1, w2, Bool.true_and, Bool.true_and, valD_int] at fsplit
            have t10 : PR (tIf (tTest (tOp rEq (tOp (rIx K) (tVar 5) (tC (.int (0 : Nat)))) (tC (.str "word")))) (tC (.int 10)) (tC (.int 2))) [some v, some u, some u2, some u3, some u4, some u5, some vm] G4 (.int (if isStr "word" (.str zx) = true then 10 else 2)) := by
              refine PR_if (b := isStr "word" (.str zx)) (TR_test (PR_op RR2_eqS i0 PR_str)) (fun h => ?_) fun h => ?_
              · rw [if_pos h]; exact PR_int
              · rw [if_neg (by rw [h]; decide)]; exact PR_int
            have lt := PR_op RR2_ltI i1 t10
            cases hlt : decide ((j : Int) < if isStr "word" (.str zx) = true then 10 else 2) with
            | false =>
              rw [hlt] at lt fsplit
              rw [no fsplit] at k
              exact tRet_use x7.gh (PR_andV (c := false) lt fun z => by cases z) fun v' G' H' x dv' => k v' G' H' (x7.trans x) dv'
            | true =>
              rw [hlt] at lt fsplit
              rcases hb with ⟨hf, _⟩ | ⟨m, hm, hz, hb⟩
              · rw [hf] at fsplit; cases fsplit
              have hm' : ∃ l, m = .add n p l ∧ LzL y3 l := by
                cases m with
                | add i' p' l =>
                  obtain ⟨y, hr, hl⟩ := hz
                  have e := hrow.items.symm.trans hr.items
                  simp only [List.cons.injEq, and_true, true_and, PyData.int.injEq] at e
                  obtain ⟨e1, e2, e3⟩ := e
                  have e1 : n = i' := by omega
                  have e2 : p = p' := by omega
                  subst e1 e2 e3
                  exact ⟨l, rfl, hl⟩
                | shift i' p' t' =>
                  have e := hrow.items.symm.trans (Row.items hz)
                  simp only [List.cons.injEq, PyData.str.injEq] at e
                  exact absurd e.1 (by decide +kernel)
              obtain ⟨l, rfl, hl⟩ := hm'
              have tm : PR (tTup (tCons (tVar 2) (tCons (tVar 3) (tCons (tVar 4) (tCons (tCB (rTupleQ K) (tCons (tVar 5) tNil)) tNil))))) [some v, some u, some u2, some u3, some u4, some u5, some vm] G4 (encM (.add n p l)) :=
                (PR_tup (PRA_cons (PV (i := 2) d2') (PRA_cons (PV (i := 3) d3') (PRA_two (PV (i := 4) d4') (PR_tup1 (PV (i := 5) d5') (Row.seq hl))))) (by show 4 ≤ sizeLine; rw [sizeLine_eq]; omega)).eq (by rw [tupD_of hl]; rfl)
              have fin : PR (tOp (fun x y H Q => y = .non ∧ Q (.bl (!decide (x = .non))) H) (tCall (spP DMendL) [] E0 (tCons (tVar 0) (tCons (tTup (tCons (tVar 2) (tCons (tVar 3) (tCons (tVar 4) (tCons (tCB (rTupleQ K) (tCons (tVar 5) tNil)) tNil))))) tNil))) (tC .non)) [some v, some u, some u2, some u3, some u4, some u5, some vm] G4 (.bool b) := by
                refine (PR_op RR2_notN (PR_call (PRA_two (PV (i := 0) dv4) tm) ⟨ss, _, rfl, rfl, FormM.fits hm, hR.short, mendS_form hm hR.form hW⟩) PR_non).eq ?_
                rw [hb, lawMended]
                by_cases z : wrongFrom 0 (mendS ss (.add n p l)) = none
                · rw [if_pos z, decide_eq_true z]; rfl
                · rw [if_neg z, decide_eq_false z]; rfl
              exact tRet_use x7.gh (PR_andV (c := b) lt fun _ => fin) fun v' G' H' x dv' => k v' G' H' (x7.trans x) (by simpa using dv')
      · -- shift
        rw [PyData.str.injEq] at ex
        subst ex
        rw [show isStr "shift" (.str "shift") = true from by decide +kernel]
        refine iteT ?_
        rw [if_neg (by decide +kernel)] at fsplit
        have hbf : b = formD ss a := by
          rcases hb with ⟨h1, h2⟩ | ⟨m, hm, hz, h⟩
          · rw [h1, h2]
          · rw [formD_of hm hz, h]
            cases m with
            | add i' p' l =>
              obtain ⟨y, hr, hl⟩ := hz
              have e := hrow.items.symm.trans hr.items
              simp only [List.cons.injEq, PyData.str.injEq] at e
              exact absurd e.1 (by decide +kernel)
            | shift i' p' t' => exact decide_eq_true (shift_right hR.no hm)
        refine tRet_use (d := .bool b) x5.gh ?_ fun v' G' H' x dv' => k v' G' H' (x5.trans x) dv'
        rw [hbf, fsplit]
        cases hn3 : numD y3 with
        | false =>
          have c1 : PR (tCall (spP (fArg (fun a => .bool (numD a)) Pln)) [] E0 (tCons (tVar 5) tNil)) [some v, some u, some u2, some u3, some u4, some u5, some vm] G4 (.bool false) := by
            rw [← hn3]; exact PR_call (PRA_one (PV (i := 5) d5')) ⟨_, rfl, rfl, shPlain o3⟩
          exact PR_andV (c := false) c1 fun z => by cases z
        | true =>
          have c1 : PR (tCall (spP (fArg (fun a => .bool (numD a)) Pln)) [] E0 (tCons (tVar 5) tNil)) [some v, some u, some u2, some u3, some u4, some u5, some vm] G4 (.bool true) := by
            rw [← hn3]; exact PR_call (PRA_one (PV (i := 5) d5')) ⟨_, rfl, rfl, shPlain o3⟩
          obtain ⟨t, et⟩ := num_of hn3
          subst et
          show PR _ _ _ (.bool (true && (decide ((p : Int) < roomS ss n) && (decide ((t : Int) < roomS ss n) && decide ((p : Int) ≠ t)))))
          refine (PR_andV c1 fun _ => PR_andV (PR_op RR2_neI (PV (i := 4) d4') (PV (i := 5) d5')) fun _ => PR_op RR2_ltI (PR_CB RR_max2 (PRA_two (PV (i := 4) d4') (PV (i := 5) d5'))) (PV (i := 6) dm)).eq ?_
          have e : decide (max (p : Int) t < roomS ss n) = (decide ((p : Int) < roomS ss n) && decide ((t : Int) < roomS ss n)) := by
            rw [← Bool.decide_and]
            exact decide_eq_decide.mpr (by omega)
          rw [e]
          cases decide ((p : Int) < roomS ss n) <;> cases decide ((t : Int) < roomS ss n) <;> cases decide ((p : Int) ≠ t) <;> rfl
end
end K50
set_option Elab.async false
set_option linter.all false
set_option maxRecDepth 100000
set_option maxHeartbeats 4000000
/-! K50z: _law_all_mends -/
namespace K50
open PySem PySem.Spec PyProof.Rows L2 PD StX RZ
abbrev sAllL : Stmt := top 56
section
variable {P : Program} {w : World} {K : PySem.W.Frag} {mg : Str → Option Value} {base : Heap}
abbrev nAllL : List Str := ["_law_steps", "_law_layers", "_law_some", "_law_places", "_law_index", "_law_most", "_law_place", "_law_layer", "_law_to", "_law_found", "_law_known", "_law_mend", "_law_other"]
theorem scAllL : FnScope nAllL ["_law_steps", "_law_layers"] (defScope sAllL) := ⟨rfl, rfl, rfl, by decide +kernel, rfl, by decide +kernel, by decide +kernel⟩
def pairL (ss : List Stp) (m : Mnd) : PyData := .tuple [encM m, encSS (mendS ss m)]
def DAllL (ds : List PyData) (d : PyData) : Prop := ∃ ss ls, ds = [encSS ss, .list (ls.map encL)] ∧ d = .list ((allMends ss (sortLs ls)).map (pairL ss)) ∧ Right ss ∧ Few 999 ss ∧ okLays ls ∧ Small ss ls
abbrev FAllL (P : Program) (w : World) (K : PySem.W.Frag) (mg : Str → Option Value) (base : Heap) : Prop := Fn P w K mg base CX0 "_law_all_mends" 3 2 (spP DAllL)
def placeD (ss : List Stp) (i : Nat) : PyData := .tuple [.int i, .int (roomS ss i)]
theorem Small.sort {ss : List Stp} {ls : List Lay} (h : Small ss ls) : Small ss (sortLs ls) := ⟨h.st, h.rm, by rw [sortLs_len]; exact h.ly⟩
theorem steps_sh (ss : List Stp) : Sh 5 (encSS ss) := (lzSS_enc ss).sh
theorem stepsL_sh (st : List (List Stp)) : Sh 6 (.list (st.map encSS)) := ShL.list fun d hd => by
  obtain ⟨t, _, rfl⟩ := List.mem_map.mp hd
  exact steps_sh t
theorem any_steps (st : List (List Stp)) (t : List Stp) : ((st.map encSS).any fun z => PyData.eqv z (encSS t)) = decide (t ∈ st) := by
  rw [List.any_map]
  have : ((fun z => PyData.eqv z (encSS t)) ∘ encSS) = fun z => decide (z = t) := funext fun z => eqv_steps z t
  rw [this]
  induction st with
  | nil => rfl
  | cons a st ih =>
    rw [List.any_cons, ih, ← Bool.decide_or]
    exact decide_eq_decide.mpr (by rw [List.mem_cons]; exact or_congr_left eq_comm)
theorem fn_allL (D : Df K mg "_law_all_mends" sAllL) (FO : FRoomL P w K mg base) (FM : FMendL P w K mg base) (m1 : mg "len" = none) (m2 : mg "range" = none) (m3 : mg "sorted" = none) : FAllL P w K mg base := by
  refine D.pure scAllL (by rintro ds d ⟨ss, ls, rfl, _⟩; rfl) rfl (fun _ _ _ _ _ _ us hl => match us, hl with | [_, _], _ => rfl) fun f cdv A outer s0 H E G vs ds d Q hr hG hv hD k => ?_
  obtain ⟨ss, ls, rfl, rfl, hR, hW, hls, hS0⟩ := hD
  obtain ⟨v, u, rfl, dv, du⟩ := hv.two
  have hsz : sizeLine = 16777216 := sizeLine_eq
  have hu := hr.u65
  have hr1 : Room 1 _ := hr.mono (by decide : 1 ≤ 2)
  refine ⟨_, pss_cons (ps_par (i := 2) (j := 3) (by rfl) scAllL.nd rfl rfl (by decide) rfl rfl (pa_cons (pe_lst pa_nil) (pa_cons
      (xe_lc1 (tt := tYes) nAllL (defScope sAllL) 4 (pi_range1 rfl m2 (pa_cons (xe_len (K := K) m1 (pv 0)) pa_nil)) (by decide +kernel) scAllL.nd (.inr rfl) (fun _ _ _ _ _ => pts_nil) (fun _ _ _ _ _ => pe_tup (pa_cons (pv 4) (pa_cons (pe_fn FO hr1 (by rfl) pass0 (pa_cons (pv 0) (pa_cons (pv 4) pa_nil))) pa_nil)))) pa_nil)) (by rfl))
    (pss_cons (ps_for PassesOwn.never rfl (xi_list (K := K) (pv 3)) (pg_tup rfl (pgs_cons (pg_name (i := 4) scAllL.nd rfl (.inr rfl)) (pgs_cons (pg_name (i := 5) scAllL.nd rfl (.inl rfl)) pgs_nil)))
      (pss_one (ps_for PassesOwn.never rfl (pi_range1 rfl m2 (pa_cons (pe_op op_add (pv 5) pe_int) pa_nil)) (pg_name (i := 6) scAllL.nd rfl (.inr rfl))
        (pss_one (xs_extend (pv 2) (xe_lc1 (tt := tYes) nAllL (defScope sAllL) 7 (xi_list (K := K) (xe_sorted (K := K) m3 hu (pv 1))) (by decide +kernel) scAllL.nd (.inr rfl) (fun _ _ _ _ _ => pts_nil) (fun _ _ _ _ _ => pe_tup (pa_cons pe_str (pa_cons (pv 4) (pa_cons (pv 6) (pa_cons (pv 7) pa_nil)))))))))))
    (pss_cons (ps_for PassesOwn.never rfl (xi_list (K := K) (pv 3)) (pg_tup rfl (pgs_cons (pg_name (i := 4) scAllL.nd rfl (.inr rfl)) (pgs_cons (pg_name (i := 5) scAllL.nd rfl (.inl rfl)) pgs_nil)))
      (pss_one (ps_for PassesOwn.never rfl (pi_range1 rfl m2 (pa_cons (pv 5) pa_nil)) (pg_name (i := 6) scAllL.nd rfl (.inr rfl))
        (pss_one (xs_extend (pv 2) (xe_lc1 nAllL (defScope sAllL) 8 (pi_range1 rfl m2 (pa_cons (pv 5) pa_nil)) (by decide +kernel) scAllL.nd (.inr rfl) (fun _ _ _ _ _ => pts_one (pt_cmpR op_ne (pv 6) (pv 8) (nomark _))) (fun _ _ _ _ _ => pe_tup (pa_cons pe_str (pa_cons (pv 4) (pa_cons (pv 6) (pa_cons (pv 8) pa_nil)))))))))))
    (pss_cons (ps_par (i := 9) (j := 10) (by rfl) scAllL.nd rfl rfl (by decide) rfl rfl (pa_cons (pe_lst pa_nil) (pa_cons (pe_lst (pa_cons (pv 0) pa_nil)) pa_nil)) (by rfl))
    (pss_cons (ps_for PassesOwn.never rfl (xi_list (K := K) (pv 2)) (pg_name (i := 11) scAllL.nd rfl (.inl rfl))
      (pss_cons (ps_set (i := 12) scAllL.nd rfl (.inl rfl) (pe_fn FM hr (by rfl) pass0 (pa_cons (pv 0) (pa_cons (pv 11) pa_nil))))
      (pss_one (ps_if (PW.pt (pw_and (pt_cmpR op_notN (pv 12) pe_non (nomark _)) (pw_and1 (xt_notin (K := K) hu (pv 12) (pv 10)))))
        (pss_cons (xs_append (pv 10) (pv 12)) (pss_one (xs_append (pv 9) (pe_tup (pa_cons (pv 11) (pa_cons (pv 12) pa_nil)))))) pss_nil))))
    (pss_one (ps_ret (pv 9))))))), ?_⟩
  have hS := hS0.sort
  have hst := hS.st
  have hrm := hS.rm
  refine ⟨by show 0 ≤ sizeLine; omega, fun p hp => ?_⟩
  have g0 := (Gr.start hG).new (xs := []) hp
  -- _law_places
  have plc : PR (tLc (iRng1 (tCons (tCB (rLenQ K) (tCons (tVar 0) tNil)) tNil)) (gName 4) tYes (tTup (tCons (tVar 4) (tCons (tCall (spP DRoom) [] E0 (tCons (tVar 0) (tCons (tVar 4) tNil))) tNil))) [4]) [some v, some u, none, none, none, none, none, none, none, none, none, none, none] G (.list ((List.range ss.length).map (placeD ss))) :=
    PR_map1 (bs := List.range ss.length) (enc := fun i => .int (i : Nat)) (WR_range1 (by omega) (PRA_one (lenSS (PV dv)))) (fun _ => rfl) (fun G1 b x g hb dx => PR_tup (PRA_two (PV (i := 4) dx) (PR_call (PRA_two (PV (i := 0) (dv.up g)) (PV (i := 4) dx)) ⟨ss, b, rfl, rfl, List.mem_range.mp hb⟩)) (by show 2 ≤ sizeLine; omega)) (by rw [List.length_range]; omega)
  refine plc _ _ g0.gh fun vq Gp1 Hp1 ep1 dq => ⟨_, _, rfl, ?_⟩
  have gp := g0.ext ep1
  have hp1 : Hp1 p = some (.lst []) := ep1.hh _ _ upd_same
  have eS : ∀ {σ : L2.St} {G1 : Hp}, Same G G1 → σ[1]? = some (some u) → PR (tCB (rSortedD K) (tCons (tVar 1) tNil)) σ G1 (.list ((sortLs ls).map encL)) := fun g h => (PR_CB (RR_sorted (kin_lays ls).sortOk) (PRA_one (PR_var h (du.up g)))).eq (by rw [sortD_enc])
  have gpl : ∀ {j : Nat} {d : PyData}, ((List.range ss.length).map (placeD ss))[j]? = some d → j < ss.length ∧ d = placeD ss j := fun {j d} h => by
    obtain ⟨b, hb, rfl⟩ := get_map h
    have hj : j < ss.length := by have := (List.getElem?_eq_some_iff.mp hb).1; rwa [List.length_range] at this
    rw [List.getElem?_range hj] at hb
    rw [← Option.some.inj hb]
    exact ⟨hj, rfl⟩
  -- the first loop
  refine tFor_use gp.gh (WR_list (PV (i := 3) dq)) fun J G1 H1 e1 dw => ?_
  refine for_pt dw (fun j σ H' => ∃ G' acc x4 x5 x6, Gr G H [p] G' H' ∧ Same G1 G' ∧ H' p = some (.lst acc) ∧ DqAll G' acc ((((List.range ss.length).take j).flatMap (addsAt ss (sortLs ls))).map encM) ∧ acc.length ≤ j * 420 ∧ σ = [some v, some u, some (.ref p), some vq, x4, x5, x6, none, none, none, none, none, none])
    ⟨G1, [], none, none, none, gp.ext e1, Same.refl _, e1.hh _ _ hp1, by simp; exact .nil, by simp, rfl⟩ ?_ ?_ ?_
  · rintro j σ H' hj ⟨G', acc, x4, x5, x6, g, s, _⟩
    exact s.trans g.gh
  · rintro j d x σ H2 H2' hd ⟨G2, acc, x4, x5, x6, g2, s2, ha, da, hl, rfl⟩ e2 y
    obtain ⟨hjl, rfl⟩ := gpl hd
    obtain ⟨G3, g3, s3, dx⟩ := g2.yld s2 y
    have a3 : H2' p = some (.lst acc) := e2 _ _ ha
    refine gp2 x G3 H2' _ dx g3.gh fun σ' ⟨vi, vm, di, dm, eσ⟩ => ?_
    subst eσ
    have hrj := hrm j
    refine tFor_use g3.gh (WR_range1 (n := roomS ss j + 1) (by omega) (PRA_one ((PR_op RR2_addI (PV (i := 5) dm) PR_int).eq (by congr 1)))) fun J4 G4 H4 e4 dw4 => ?_
    refine for_nm dw4 (fun i σ H' => ∃ G' ac x6, Gr G H [p] G' H' ∧ Same G4 G' ∧ H' p = some (.lst ac) ∧ DqAll G' ac ((((List.range ss.length).take j).flatMap (addsAt ss (sortLs ls)) ++ ((List.range (roomS ss j + 1)).take i).flatMap fun p => (sortLs ls).map fun l => Mnd.add j p l).map encM) ∧ ac.length ≤ j * 420 + i * 20 ∧ σ = [some v, some u, some (.ref p), some vq, some vi, some vm, x6, none, none, none, none, none, none])
      ⟨G4, acc, x6, g3.ext e4, Same.refl _, e4.hh _ _ a3, by simpa using (da.up s3).up e4.gg, by omega, rfl⟩ ?_ ?_ ?_
    · rintro i σ H' hi ⟨G', ac, x6, g, s, _⟩
      exact s.trans g.gh
    · rintro i d y σ H5 H5' hd ⟨G5, ac, x6, g5, s5, h5, d5, hl5, rfl⟩ e5 yy
      obtain ⟨hil, rfl⟩ := range_get hd
      obtain ⟨G6, g6, s6, dy⟩ := g5.yld s5 yy
      have s36 : Same G3 G6 := (e4.gg.trans s5).trans s6
      have add : PR (tLc (iList K (tCB (rSortedD K) (tCons (tVar 1) tNil))) (gName 7) tYes (tTup (tCons (tC (.str "add")) (tCons (tVar 4) (tCons (tVar 6) (tCons (tVar 7) tNil))))) [7]) [some v, some u, some (.ref p), some vq, some vi, some vm, some y, none, none, none, none, none, none] G6 (.list ((sortLs ls).map fun l => encM (.add j i l))) :=
        PR_map1 (enc := encL) (WR_list (eS g6.gg rfl)) (fun _ => rfl) (fun G7 l z g hb dz => PR_tup (PRA_cons PR_str (PRA_cons (PV (i := 4) ((di.up s36).up g)) (PRA_two (PV (i := 6) (dy.up g)) (PV (i := 7) dz)))) (by show 4 ≤ sizeLine; omega)) (by have := hS.ly; omega)
      have hly := hS.ly
      refine put_extend g6 (List.mem_cons_self ..) rfl (e5 _ _ h5) add (by rw [List.length_map]; have : j * 420 ≤ 20 * 420 := Nat.mul_le_mul_right _ (by omega); omega) fun vs' G7 H7 g7 s7 d7 h7 _ => ?_
      refine ⟨G7, ac ++ vs', _, g7, (s5.trans s6).trans s7, h7, ?_, ?_, rfl⟩
      · rw [range_take _ _ hil, List.flatMap_append, ← List.append_assoc, List.map_append]
        refine ((d5.up s6).up s7).app ?_
        simpa [List.map_map, Function.comp_def] using d7
      · rw [List.length_append, d7.len, List.length_map]; omega
    · rintro σ H5 ⟨G5, ac, x6, g5, s5, h5, d5, hl5, rfl⟩
      rw [List.length_map, List.length_range] at d5 hl5
      rw [List.take_of_length_le (l := List.range (roomS ss j + 1)) (by rw [List.length_range]; exact Nat.le_refl _)] at d5
      refine ⟨G5, ac, _, _, x6, g5, ((s2.trans s3).trans e4.gg).trans s5, h5, ?_, by rw [Nat.add_mul]; omega, rfl⟩
      rw [range_take _ _ hjl, List.flatMap_append]
      simpa [addsAt] using d5
  rintro σ H2 ⟨G2, acc, x4, x5, x6, g2, s2, ha, da, hl, rfl⟩
  rw [List.length_map, List.length_range] at hl da
  rw [List.take_of_length_le (by rw [List.length_range]; exact Nat.le_refl _)] at da
  have dq2 := (dq.up e1.gg).up s2
  -- the second loop
  refine tFor_use g2.gh (WR_list (PV (i := 3) dq2)) fun J G3 H3 e3 dw => ?_
  have g3 := g2.ext e3
  refine for_pt dw (fun j σ H' => ∃ G' acc x4 x5 x6, Gr G H [p] G' H' ∧ Same G3 G' ∧ H' p = some (.lst acc) ∧ DqAll G' acc (((List.range ss.length).flatMap (addsAt ss (sortLs ls)) ++ ((List.range ss.length).take j).flatMap (shiftsAt ss)).map encM) ∧ acc.length ≤ ss.length * 420 + j * 420 ∧ σ = [some v, some u, some (.ref p), some vq, x4, x5, x6, none, none, none, none, none, none])
    ⟨G3, acc, x4, x5, x6, g3, Same.refl _, e3.hh _ _ ha, by simpa using da.up e3.gg, by omega, rfl⟩ ?_ ?_ ?_
  · rintro j σ H' hj ⟨G', acc, x4, x5, x6, g, s, _⟩
    exact s.trans g.gh
  · rintro j d x σ H4 H4' hd ⟨G4, acc, x4, x5, x6, g4, s4, ha, da, hl, rfl⟩ e4 y
    obtain ⟨hjl, rfl⟩ := gpl hd
    obtain ⟨G5, g5, s5, dx⟩ := g4.yld s4 y
    have a5 : H4' p = some (.lst acc) := e4 _ _ ha
    refine gp2 x G5 H4' _ dx g5.gh fun σ' ⟨vi, vm, di, dm, eσ⟩ => ?_
    subst eσ
    have hrj := hrm j
    refine tFor_use g5.gh (WR_range1 (n := roomS ss j) (by omega) (PRA_one (PV (i := 5) dm))) fun J6 G6 H6 e6 dw6 => ?_
    refine for_nm dw6 (fun i σ H' => ∃ G' ac x6, Gr G H [p] G' H' ∧ Same G6 G' ∧ H' p = some (.lst ac) ∧ DqAll G' ac ((((List.range ss.length).flatMap (addsAt ss (sortLs ls)) ++ ((List.range ss.length).take j).flatMap (shiftsAt ss)) ++ ((List.range (roomS ss j)).take i).flatMap fun p => ((List.range (roomS ss j)).filter fun t => decide (p ≠ t)).map fun t => Mnd.shift j p t).map encM) ∧ ac.length ≤ ss.length * 420 + j * 420 + i * 20 ∧ σ = [some v, some u, some (.ref p), some vq, some vi, some vm, x6, none, none, none, none, none, none])
      ⟨G6, acc, x6, g5.ext e6, Same.refl _, e6.hh _ _ a5, by simpa using (da.up s5).up e6.gg, by omega, rfl⟩ ?_ ?_ ?_
    · rintro i σ H' hi ⟨G', ac, x6, g, s, _⟩
      exact s.trans g.gh
    · rintro i d y σ H7 H7' hd ⟨G7, ac, x6, g7, s7, h7, d7, hl7, rfl⟩ e7 yy
      obtain ⟨hil, rfl⟩ := range_get hd
      obtain ⟨G8, g8, s8, dy⟩ := g7.yld s7 yy
      have s58 : Same G5 G8 := (e6.gg.trans s7).trans s8
      have add : PR (tLc (iRng1 (tCons (tVar 5) tNil)) (gName 8) (tTest (tOp rNe (tVar 6) (tVar 8))) (tTup (tCons (tC (.str "shift")) (tCons (tVar 4) (tCons (tVar 6) (tCons (tVar 8) tNil))))) [8]) [some v, some u, some (.ref p), some vq, some vi, some vm, some y, none, none, none, none, none, none] G8 (.list (((List.range (roomS ss j)).filter fun t => decide (i ≠ t)).map fun t => encM (.shift j i t))) :=
        PR_lc1 (bs := List.range (roomS ss j)) (enc := fun p => .int (p : Nat)) (p := fun t => decide (i ≠ t)) (f := fun t => encM (.shift j i t)) (WR_range1 (by omega) (PRA_one (PV (i := 5) (dm.up s58)))) (fun _ => rfl) (fun G9 l z g hb dz => ⟨TR.eq (TR_test (PR_op RR2_neI (PV (i := 6) (dy.up g)) (PV (i := 8) dz))) (decide_eq_decide.mpr (by omega)), fun _ => PR_tup (PRA_cons PR_str (PRA_cons (PV (i := 4) ((di.up s58).up g)) (PRA_two (PV (i := 6) (dy.up g)) (PV (i := 8) dz)))) (by show 4 ≤ sizeLine; omega)⟩) (by rw [List.length_range]; omega)
      have hfl : (((List.range (roomS ss j)).filter fun t => decide (i ≠ t)).map fun t => encM (.shift j i t)).length ≤ 20 := by
        rw [List.length_map]
        exact Nat.le_trans (List.length_filter_le _ _) (by rw [List.length_range]; exact hrj)
      refine put_extend g8 (List.mem_cons_self ..) rfl (e7 _ _ h7) add (by have : j * 420 ≤ 20 * 420 := Nat.mul_le_mul_right _ (by omega); have : ss.length * 420 ≤ 20 * 420 := Nat.mul_le_mul_right _ hst; omega) fun vs' G9 H9 g9 s9 d9 h9 _ => ?_
      refine ⟨G9, ac ++ vs', _, g9, (s7.trans s8).trans s9, h9, ?_, ?_, rfl⟩
      · rw [range_take _ _ hil, List.flatMap_append, ← List.append_assoc, List.map_append]
        refine ((d7.up s8).up s9).app ?_
        simpa [List.map_map, Function.comp_def] using d9
      · rw [List.length_append, d9.len]; omega
    · rintro σ H7 ⟨G7, ac, x6, g7, s7, h7, d7, hl7, rfl⟩
      rw [List.length_map, List.length_range] at d7 hl7
      rw [List.take_of_length_le (l := List.range (roomS ss j)) (by rw [List.length_range]; exact Nat.le_refl _)] at d7
      refine ⟨G7, ac, _, _, x6, g7, ((s4.trans s5).trans e6.gg).trans s7, h7, ?_, by rw [Nat.add_mul]; omega, rfl⟩
      rw [range_take _ _ hjl, List.flatMap_append, ← List.append_assoc]
      simpa [shiftsAt] using d7
  rintro σ H4 ⟨G4, acc, x4, x5, x6, g4, s4, ha, da, hl, rfl⟩
  rw [List.length_map, List.length_range] at hl da
  rw [List.take_of_length_le (by rw [List.length_range]; exact Nat.le_refl _)] at da
  have da : DqAll G4 acc ((triesS ss (sortLs ls)).map encM) := da
  have htl : (triesS ss (sortLs ls)).length ≤ 16800 := by
    have := da.len
    rw [List.length_map] at this
    have : ss.length * 420 ≤ 20 * 420 := Nat.mul_le_mul_right _ hst
    omega
  have gf := g4.freeze ha
  have dsome : Dq (upd G4 p (.lst acc)) (.ref p) (.list ((triesS ss (sortLs ls)).map encM)) := .lst upd_same (da.up (g4.tmp (List.mem_cons_self ..) ha).2)
  -- found, known
  refine ⟨by show 0 ≤ sizeLine; omega, fun q1 hq1 => ⟨_, rfl, by show 1 ≤ sizeLine; omega, fun q2 hq2 => ⟨_, _, rfl, ?_⟩⟩⟩
  have gq := (gf.new (xs := []) hq1).new (xs := [v]) hq2
  have n12 : q1 ≠ q2 := ne_of_none upd_same hq2
  have dv' := dv.up gq.gg
  refine tFor_use gq.gh (WR_list (PV (i := 2) dsome)) fun J G5 H5 e5 dw => ?_
  have g5 := gq.ext e5
  refine for_nm dw (fun j σ H' => ∃ G' fa ka x11 x12, Gr G H [q2, q1] G' H' ∧ Same G5 G' ∧ H' q1 = some (.lst fa) ∧ H' q2 = some (.lst ka) ∧ DqAll G' fa ((((triesS ss (sortLs ls)).take j).foldl (scanSt ss) ([ss], [])).2.map (pairL ss)) ∧ DqAll G' ka ((((triesS ss (sortLs ls)).take j).foldl (scanSt ss) ([ss], [])).1.map encSS) ∧
      σ = [some v, some u, some (.ref p), some vq, x4, x5, x6, none, none, some (.ref q1), some (.ref q2), x11, x12])
    ⟨G5, [], [v], none, none, g5, Same.refl _, e5.hh _ _ (by rw [upd_ne n12, upd_same]), e5.hh _ _ upd_same, .nil, .cons (dv'.up e5.gg) .nil, rfl⟩ ?_ ?_ ?_
  · rintro j σ H' hj ⟨G', fa, ka, x10, x11, g, s, _⟩
    exact s.trans g.gh
  · rintro j d x σ H6 H6' hd ⟨G6, fa, ka, x10, x11, g6, s6, hf, hk, df, dk, rfl⟩ e6 y
    obtain ⟨m, hm1, rfl⟩ := get_map hd
    obtain ⟨G7, g7, s7, dx⟩ := g6.yld s6 y
    have mem : m ∈ triesS ss (sortLs ls) := List.mem_of_getElem? hm1
    have hjl : j < (triesS ss (sortLs ls)).length := (List.getElem?_eq_some_iff.mp hm1).1
    have etk : (triesS ss (sortLs ls)).take (j + 1) = (triesS ss (sortLs ls)).take j ++ [m] := by rw [List.take_add_one, hm1]; rfl
    have hF := tries_form mem (okLays_sort hls)
    generalize hst' : ((triesS ss (sortLs ls)).take j).foldl (scanSt ss) ([ss], []) = st at df dk
    have hsl := scan_len ss ((triesS ss (sortLs ls)).take j) ([ss], [])
    rw [hst', List.length_take] at hsl
    simp only [List.length_cons, List.length_nil] at hsl
    have enx : ((triesS ss (sortLs ls)).take (j + 1)).foldl (scanSt ss) ([ss], []) = scanSt ss st m := by rw [etk, List.foldl_append, hst']; rfl
    refine tSet_use g7.gh (PR_call (PRA_two (PV (i := 0) (dv.up g7.gg)) (PV (i := 11) dx)) ⟨ss, m, rfl, rfl, FormM.fits hF, hR.short, mendS_form hF hR.form hW⟩) fun vo G8 H8 e8 do_ => ?_
    have g8 := g7.ext e8
    have f8 : H8 q1 = some (.lst fa) := e8.hh _ _ (e6 _ _ hf)
    have k8 : H8 q2 = some (.lst ka) := e8.hh _ _ (e6 _ _ hk)
    have s68 : Same G6 G8 := s7.trans e8.gg
    have tk := g8.tmp (List.mem_cons_self ..) k8
    have dk8 : Dq (upd G8 q2 (.lst ka)) (.ref q2) (.list (st.1.map encSS)) := .lst upd_same ((dk.up s68).up tk.2)
    by_cases hw : wrongFrom 0 (mendS ss m) = none
    · have eby : lawMended ss m = encSS (mendS ss m) := by rw [lawMended, if_pos hw]
      rw [eby] at do_
      refine tIf_use (b := true && !decide (mendS ss m ∈ st.1)) (TR_and (TR_test (PR_op RR2_notN (PV (σ := [some v, some u, some (.ref p), some vq, x4, x5, x6, none, none, some (.ref q1), some (.ref q2), some x, some vo]) (i := 12) (do_.up tk.2)) PR_non)) fun _ => TR.eq (TR_test (PR_op (RR2_notin ((steps_sh _).shaped (by decide)) ((stepsL_sh st.1).shaped (by decide))) (PV (i := 12) (do_.up tk.2)) (PV (i := 10) dk8))) (by rw [any_steps])) tk.1 fun H9 e9 => ?_
      have g9 := g8.same e9
      have f9 := e9 _ _ f8
      have k9 := e9 _ _ k8
      by_cases hin : mendS ss m ∈ st.1
      · rw [decide_eq_true hin]
        refine iteF ⟨G8, fa, ka, _, _, g9, s6.trans s68, f9, k9, ?_, ?_, rfl⟩
        · rw [enx, scanSt, if_neg (fun z => z.2 hin)]; exact df.up s68
        · rw [enx, scanSt, if_neg (fun z => z.2 hin)]; exact dk.up s68
      · rw [decide_eq_false hin]
        refine iteT ?_
        have lk := dk.len
        have lf := df.len
        rw [List.length_map] at lk lf
        refine put_append g9 (List.mem_cons_self ..) rfl k9 (PV (i := 12) do_) (by omega) fun v11 G11 H11 g11 s11 d11 h11 o11 => ?_
        refine put_append g11 (List.mem_cons_of_mem _ (List.mem_cons_self ..)) rfl (o11 q1 _ n12 f9) (PR_tup (PRA_two (PV (i := 11) ((dx.up e8.gg).up s11)) (PV (i := 12) (do_.up s11))) (by show 2 ≤ sizeLine; omega)) (by omega) fun v12 G12 H12 g12 s12 d12 h12 o12 => ?_
        refine ⟨G12, fa ++ [v12], ka ++ [v11], _, _, g12, ((s6.trans s68).trans s11).trans s12, h12, o12 q2 _ (Ne.symm n12) h11, ?_, ?_, rfl⟩
        · rw [enx, scanSt, if_pos ⟨hw, hin⟩, List.map_append]
          exact (((df.up s68).up s11).up s12).snoc d12
        · rw [enx, scanSt, if_pos ⟨hw, hin⟩, List.map_append]
          exact (((dk.up s68).up s11).up s12).snoc (d11.up s12)
    · have eby : lawMended ss m = .none := by rw [lawMended, if_neg hw]
      rw [eby] at do_
      refine tIf_use (b := false && true) (TR_and (TR_test (PR_op RR2_notN (PV (σ := [some v, some u, some (.ref p), some vq, x4, x5, x6, none, none, some (.ref q1), some (.ref q2), some x, some vo]) (i := 12) do_) PR_non)) fun z => by cases z) g8.gh fun H9 e9 => ?_
      refine iteF ⟨G8, fa, ka, _, _, g8.same e9, s6.trans s68, e9 _ _ f8, e9 _ _ k8, ?_, ?_, rfl⟩
      · rw [enx, scanSt, if_neg (fun z => hw z.1)]; exact df.up s68
      · rw [enx, scanSt, if_neg (fun z => hw z.1)]; exact dk.up s68
  rintro σ H6 ⟨G6, fa, ka, x10, x11, g6, s6, hf, hk, df, dk, rfl⟩
  rw [List.length_map, List.take_length] at df
  have gd := g6.drop
  have ge := gd.freeze hf
  exact ⟨_, rfl, k _ _ _ ge.done (.lst upd_same (df.up (gd.tmp (List.mem_cons_self ..) hf).2))⟩
end
end K50
set_option Elab.async false
set_option linter.all false
set_option maxRecDepth 100000
set_option maxHeartbeats 4000000
/-! K51a: _law_going -/
namespace K50
open PySem PySem.Spec PyProof.Rows L2 PD StX RZ NdefX LamX
abbrev sGoing : Stmt := top 51
section
variable {P : Program} {w : World} {K : PySem.W.Frag} {mg : Str → Option Value} {base : Heap} {t : Tb} {W : Wl} {n m : Nat} {G H H0 : Hp} {σ : L2.St} {c c1 c2 : Nat}
abbrev nGoing : List Str := ["_law_stream_here", "_law_many", "_law_steps", "_law_message", "_law_k", "_law_part", "_law_takes", "_law_puts", "_law_one", "_law_turn", "_law_kind", "_law_whose"]
theorem scGoing : FnScope nGoing ["_law_stream_here", "_law_many"] (defScope sGoing) := ⟨rfl, rfl, rfl, by decide +kernel, rfl, by decide +kernel, by decide +kernel⟩
theorem TN_orN {t1 t2 : TT} {B1 B2 B : Bool → Prop} (h1 : TN W t1 σ G c1 B1) (h2 : B1 false → TN W t2 σ G c2 B2) (e1 : B1 true → B true) (e2 : ∀ b, B2 b → B b) : TN W (tOr t1 t2) σ G (c1 + c2) B := fun H n Q hs cl hw hl k =>
  h1 H n _ hs cl hw (by omega) fun b G1 H1 hb x w1 => by
    cases b with
    | true => exact iteT (k true G1 H1 (e1 hb) x (w1.mono (by omega)))
    | false => exact iteF (((h2 hb).mono x.gg) H1 (n + c1) _ x.gh x.cl w1 (by omega) fun b G2 H2 hb y w2 => k b G2 H2 (e2 b hb) (x.trans y) (by rw [Nat.add_assoc] at w2; exact w2))
theorem TN_andN {t1 t2 : TT} {B1 B2 B : Bool → Prop} (h1 : TN W t1 σ G c1 B1) (h2 : B1 true → TN W t2 σ G c2 B2) (e1 : B1 false → B false) (e2 : ∀ b, B2 b → B b) : TN W (tAnd t1 t2) σ G (c1 + c2) B := fun H n Q hs cl hw hl k =>
  h1 H n _ hs cl hw (by omega) fun b G1 H1 hb x w1 => by
    cases b with
    | true => exact iteT (((h2 hb).mono x.gg) H1 (n + c1) _ x.gh x.cl w1 (by omega) fun b G2 H2 hb y w2 => k b G2 H2 (e2 b hb) (x.trans y) (by rw [Nat.add_assoc] at w2; exact w2))
    | false => exact iteF (k false G1 H1 (e1 hb) x (w1.mono (by omega)))
theorem TN_drawGt {i : Nat} {m : Nat} {j : Int} {E : XK} (hσ : σ[i]? = some (some (.ref W.st))) (h0 : 0 < m) (h1 : m < 1073741824) :
    TN W (tTest (tOp (rI0 fun i j => .bl (decide (j < i))) (tCall (spS W.t (fun _ => 1) prDraw DDraw) [] E (tCons (tVar i) (tCons (tC (.int m)) tNil))) (tC (.int j)))) σ G 1 (fun _ => True) :=
  TN_test (PN_op (D := fun e => ∃ b, e = .bool b) (D2 := (· = .int j)) (c2 := 0) (fun a b h e => by
    obtain ⟨k, rfl, _⟩ := h
    subst e
    exact ⟨_, ⟨_, rfl⟩, RR2_gtI⟩) (PN_draw hσ PR_int h0 h1) (PN_of PR_int)) fun d ⟨b, e⟩ => ⟨b, e, trivial⟩
theorem RR2_I {C : Int → Int → Prop} {g : Int → Int → Int} {i j : Int} (h : C i j) : RR2 (rI C fun i j => .int (g i j)) (.int i) (.int j) (.int (g i j)) := fun x y G H Q hs h1 h2 k => by
  cases h1; cases h2; exact ⟨i, j, rfl, rfl, h, k _ G H (.refl hs) (.int _)⟩
/-- the turns of a for that may break -/
theorem for_nmB {J : It} {ds : List PyData} {i : Nat} {tb : TS} {D : Ends} (dw : DW J G ds) (Pv : Nat → L2.St → Hp → Prop) (Post : L2.St → Hp → Prop) (h0 : Pv 0 σ H) (hG : ∀ j σ H, j ≤ ds.length → Pv j σ H → Same G H) (kp : ∀ σ H, Post σ H → D.nx σ H)
    (hs : (∀ σ H, Post σ H → D.nx σ H) → ∀ j d x σ H H', ds[j]? = some d → Pv j σ H → Same H H' → (∀ G1, Same G G1 → Same G1 H → ∃ G2, Ext G1 H G2 H' ∧ Dq G2 x d) → tb { D with nx := Pv (j + 1), ct := Pv (j + 1), bk := D.nx } (σ.set i (some x)) H') (hd : ∀ σ H, Pv ds.length σ H → Post σ H) :
    ∃ W : Nat → Nat → L2.St → Hp → Prop, (∃ m, W 0 m σ H) ∧ ∀ j m σ H, W j m σ H → (J.stop j H ∧ D.nx σ H) ∨ (J.go j H ∧ ∃ N : L2.St → Hp → Prop, (∀ σ' H', N σ' H' → ∃ m', m' < m ∧ W (j + 1) m' σ' H') ∧
      ∀ x H', J.yld j H x H' → gName i x σ H' fun σ2 H2 => tb { D with nx := N, ct := N, bk := D.nx } σ2 H2) := for_nm dw Pv h0 hG (hs kp) fun σ H h => kp σ H (hd σ H h)
def kinds6 : List PyData := [.str "cipher", .str "cipher", .str "cipher", .str "label", .str "seal", .str "word"]
theorem kinds6_mem {d : PyData} (h : d ∈ kinds6) : ∃ k : Kd, d = .str k.str := by
  simp only [kinds6, List.mem_cons, List.not_mem_nil, or_false] at h
  rcases h with rfl | rfl | rfl | rfl | rfl | rfl
  · exact ⟨.ci, rfl⟩
  · exact ⟨.ci, rfl⟩
  · exact ⟨.ci, rfl⟩
  · exact ⟨.la, rfl⟩
  · exact ⟨.se, rfl⟩
  · exact ⟨.wo, rfl⟩
/-- one layer that is put -/
theorem turn_put {G0 H0 : Hp} {ps : List Addr} {q : Addr} {acc : List V} {n0 part : Nat} {x1 x2 x3 x4 x6 x8 x9 x10 x11 : Option V} {De : Ends} (g : GrW W G0 H0 ps G H) (w0 : WOk W n0 H0) (hw : WOk W n H) (hq : q ∈ ps) (hl : n + 3 ≤ lim) (hpart : part ≤ 1)
    (hx : H q = some (.lst acc)) (hz : acc.length < sizeLine) {E1 E2 E3 : XK}
    (k : ∀ (l : Lay) v G1 H1 y10 y11, okLay l → l ≠ (.se, 1 - part) → GrW W G0 H0 ps G1 H1 → WOk W (n + 3) H1 → Same G G1 → Dq G1 v (encL l) → H1 q = some (.lst (acc ++ [v])) → (∀ b xs, b ∈ ps → b ≠ q → H b = some (.lst xs) → H1 b = some (.lst xs)) → De.nx [some (.ref W.st), x1, x2, x3, x4, some (.int part), x6, some (.ref q), x8, x9, y10, y11] H1) :
    tSeq (tPar 10 11 (tCons (tCall (spS W.t (fun _ => 1) prPick DPick) [] E1 (tCons (tVar 0) (tCons (tLst (tCons (tC (.str "cipher")) (tCons (tC (.str "cipher")) (tCons (tC (.str "cipher")) (tCons (tC (.str "label")) (tCons (tC (.str "seal")) (tCons (tC (.str "word")) tNil))))))) tNil))) (tCons (tCall (spS W.t (fun _ => 1) prDraw DDraw) [] E2 (tCons (tVar 0) (tCons (tC (.int 2)) tNil))) tNil)))
      (tSeq (tAsg (tIf (tTest (tOp rEq (tVar 10) (tC (.str "seal")))) (tVar 5) (tIf (tAnd (tTest (tOp rEq (tVar 10) (tC (.str "cipher")))) (tTest (tOp (rI0 fun i j => .bl (decide (j < i))) (tCall (spS W.t (fun _ => 1) prDraw DDraw) [] E3 (tCons (tVar 0) (tCons (tC (.int 4)) tNil))) (tC (.int 0))))) (tOp (rI0 fun i j => .int (i - j)) (tC (.int 1)) (tVar 5)) (tVar 11))) (gName 11))
        (tDrop (tBM K "list" rAppend (tVar 7) (tCons (tTup (tCons (tVar 10) (tCons (tVar 11) tNil))) tNil)))) De
      [some (.ref W.st), x1, x2, x3, x4, some (.int part), x6, some (.ref q), x8, x9, x10, x11] H := by
  have hsz : sizeLine = 16777216 := sizeLine_eq
  refine PN_pick (xs := kinds6) rfl (PR_lst (PRA_cons PR_str (PRA_cons PR_str (PRA_cons PR_str (PRA_cons PR_str (PRA_cons PR_str (PRA_one PR_str)))))) (by show 6 ≤ sizeLine; omega)) (by simp [kinds6]) (by simp [kinds6]) H n _ g.x.gh g.x.cl hw (by omega) fun d v1 G1 H1 hd x1' hw1 d1 => ?_
  obtain ⟨kd, rfl⟩ := kinds6_mem hd
  have g1 := g.ext w0 x1'
  have a1 := grw_keep g w0 x1' hq hx
  refine PN_draw (m := 2) rfl PR_int (by decide) (by decide) H1 (n + 1) _ x1'.gh x1'.cl hw1 (by omega) fun d v2 G2 H2 ⟨j, e, hj⟩ x2' hw2 d2 => ⟨_, _, rfl, ?_⟩
  subst e
  have g2 := g1.ext w0 x2'
  have a2 := grw_keep g1 w0 x2' hq a1
  have d1' := d1.up x2'.gg
  have key : PN W (tIf (tTest (tOp rEq (tVar 10) (tC (.str "seal")))) (tVar 5) (tIf (tAnd (tTest (tOp rEq (tVar 10) (tC (.str "cipher")))) (tTest (tOp (rI0 fun i j => .bl (decide (j < i))) (tCall (spS W.t (fun _ => 1) prDraw DDraw) [] E3 (tCons (tVar 0) (tCons (tC (.int 4)) tNil))) (tC (.int 0))))) (tOp (rI0 fun i j => .int (i - j)) (tC (.int 1)) (tVar 5)) (tVar 11)))
      [some (.ref W.st), x1, x2, x3, x4, some (.int part), x6, some (.ref q), x8, x9, some v1, some v2] G2 1 (fun d => ∃ w : Nat, d = .int w ∧ w ≤ 1 ∧ (kd = .se → w = part)) := by
    refine PN_if (b := decide (kd.str = Kd.se.str)) (TR_test (PR_op RR2_eqS (PV (i := 10) d1') PR_str)) (fun _ => (PN_of (PV (i := 5) (.int _))).imp (by omega) fun d e => ⟨part, e, hpart, fun _ => rfl⟩) fun hb => ?_
    have hne : kd ≠ .se := fun e => absurd (congrArg Kd.str e) (of_decide_eq_false hb)
    refine PN.imp (D := fun d => ∃ w : Nat, d = .int w ∧ w ≤ 1) (PN_ifN (B := fun _ => True) (c2 := 0) (TN_andN (B1 := fun _ => True) (B2 := fun _ => True) (TN.imp (TN_of (TR_test (PR_op RR2_eqS (PV (i := 10) d1') PR_str))) (Nat.le_refl _) fun _ _ => trivial) (fun _ => TN_drawGt rfl (by decide) (by decide)) (fun _ => trivial) fun _ _ => trivial)
      (fun _ => (PN_of (PR_op RR2_subI PR_int (PV (i := 5) (.int _)))).imp (Nat.le_refl _) fun d e => ⟨1 - part, by rw [e]; congr 1; omega, by omega⟩) fun _ => (PN_of (PV (i := 11) d2)).imp (Nat.le_refl _) fun d e => ⟨j, e, by omega⟩) (by omega) fun d ⟨w, e, h⟩ => ⟨w, e, h, fun z => absurd z hne⟩
  refine key H2 (n + 1 + 1) _ x2'.gh x2'.cl hw2 (by omega) fun d v3 G3 H3 ⟨w, e, hw1', hse⟩ x3' hw3 d3 => ?_
  subst e
  have g3 := g2.ext w0 x3'
  have a3 := grw_keep g2 w0 x3' hq a2
  refine put_appendW (d := encL (kd, w)) g3 w0 hw3 hq rfl a3 (PR_tup (PRA_two (PV (i := 10) (d1'.up x3'.gg)) (PV (i := 11) d3)) (by show 2 ≤ sizeLine; omega)) hz fun v G4 H4 g4 hw4 s4 dv h4 keep => ?_
  refine k (kd, w) v G4 H4 _ _ ?_ (fun e => ?_) g4 (by simpa [Nat.add_assoc] using hw4) (((x1'.gg.trans x2'.gg).trans x3'.gg).trans s4) dv h4 fun b xs hb ne e => keep b _ ne (grw_keep g2 w0 x3' hb (grw_keep g1 w0 x2' hb (grw_keep g w0 x1' hb e)))
  · by_cases hk : kd = .wo
    · exact .inl ⟨hk, by show w ≤ 9; omega⟩
    · exact .inr ⟨hk, hw1'⟩
  · have e1 : kd = .se := congrArg Prod.fst e
    have e2 : w = 1 - part := congrArg Prod.snd e
    have := hse e1
    omega
def DGoing (ds : List PyData) (d : PyData) : Prop := ∃ ss, d = encSS ss ∧ Right ss ∧ ss.length ≤ 4 ∧ Few 3 ss
abbrev FGoing (P : Program) (w : World) (K : PySem.W.Frag) (mg : Str → Option Value) (base : Heap) (t : Tb) : Prop := Fn P w K mg base CX0 "_law_going" 3 2 (spS t (fun _ => 100) (· = [.int (4 : Nat)]) DGoing)
theorem fn_going (D : Df K mg "_law_going" sGoing) (FD : FDraw P w K mg base t) (FP : FPick P w K mg base t) (m1 : mg "range" = none) (m2 : mg "min" = none) (m3 : mg "max" = none) (m4 : mg "len" = none) : FGoing P w K mg base t := by
  refine D.fn scGoing (by rintro vs H Q E ⟨W, G, ds, n, us, ht, rfl, hG, hcl, hw, hl, hd, rfl, kq⟩; have := hd.len; simp at this; simp [this]) rfl (fun _ _ _ _ _ _ us hl => match us, hl with | [_, _], _ => rfl) fun f cdv A outer s H vs Q E hr hsp => ?_
  obtain ⟨W, G, ds, n, us, rfl, rfl, hG, hcl, hw, hl, hd, rfl, kq⟩ := hsp
  obtain ⟨um, rfl, dm⟩ := hd.one
  cases dm
  have hl : n + 100 ≤ lim := hl
  have hsz : sizeLine = 16777216 := sizeLine_eq
  have hu := hr.u65
  have hr1 : Room 1 _ := hr.mono (by decide : 1 ≤ 2)
  refine ⟨_, pss_cons (ps_par (i := 2) (j := 3) (by rfl) scGoing.nd rfl rfl (by decide) rfl rfl (pa_cons (pe_lst pa_nil) (pa_cons (pe_lst pa_nil) pa_nil)) (by rfl))
    (pss_cons (ps_for PassesOwn.never rfl (pi_range1 rfl m1 (pa_cons (pe_op op_add pe_int (pe_fn FD hr1 (by rfl) pass0 (pa_cons (pv 0) (pa_cons (pv 1) pa_nil)))) pa_nil)) (pg_name (i := 4) scGoing.nd rfl (.inl rfl))
      (pss_cons (ps_par3 (i := 5) (j := 6) (l := 7) (by rfl) scGoing.nd rfl rfl rfl (by decide) (by decide) (by decide) rfl rfl rfl (pa_cons (pe_ifExp (PW.pt (pw_or (pt_cmpR op_gt (pe_fn FD hr1 (by rfl) pass0 (pa_cons (pv 0) (pa_cons pe_int pa_nil))) pe_int (nomark _)) (pw_or1 (pt_cmpR op_eq (pv 4) pe_int (nomark _))))) (pe_op op_mod (pv 4) pe_int) (pe_fn FD hr1 (by rfl) pass0 (pa_cons (pv 0) (pa_cons pe_int pa_nil)))) (pa_cons (pe_lst pa_nil) (pa_cons (pe_lst pa_nil) pa_nil))) (by rfl))
      (pss_cons (ps_for PassesOwn.never rfl (xi_list (K := K) (xe_slTo (K := K) (pv 3) (pe_callB (call_min2 rfl) rfl m2 (by decide +kernel) (pa_cons pe_int (pa_cons (pe_callB (call_max2 rfl) rfl m3 (by decide +kernel) (pa_cons pe_int (pa_cons (pe_op op_sub (xe_len (K := K) m4 (pv 3)) (pe_op op_fdiv (pe_fn FD hr1 (by rfl) pass0 (pa_cons (pv 0) (pa_cons pe_int pa_nil))) pe_int)) pa_nil))) pa_nil))))) (pg_name (i := 8) scGoing.nd rfl (.inl rfl))
        (pss_cons (ps_if (PW.pt (pw_or (xt_eq (K := K) hu (pv 8) (pe_tup (pa_cons pe_str (pa_cons (pe_op op_sub pe_int (pv 5)) pa_nil)))) (pw_or1 (pt_cmpR op_eq (pv 4) pe_int (nomark _))))) (pss_one ps_break) pss_nil)
        (pss_one (xs_append (pv 6) (pv 8)))))
      (pss_cons (ps_for PassesOwn.never rfl (pi_range1 rfl m1 (pa_cons (pe_op op_add pe_int (pe_fn FD hr1 (by rfl) pass0 (pa_cons (pv 0) (pa_cons pe_int pa_nil)))) pa_nil)) (pg_name (i := 9) scGoing.nd rfl (.inl rfl))
        (pss_cons (ps_par (i := 10) (j := 11) (by rfl) scGoing.nd rfl rfl (by decide) rfl rfl (pa_cons (pe_fn FP hr (by rfl) pass0 (pa_cons (pv 0) (pa_cons (pe_lst (pa_cons pe_str (pa_cons pe_str (pa_cons pe_str (pa_cons pe_str (pa_cons pe_str (pa_cons pe_str pa_nil))))))) pa_nil))) (pa_cons (pe_fn FD hr1 (by rfl) pass0 (pa_cons (pv 0) (pa_cons pe_int pa_nil))) pa_nil)) (by rfl))
        (pss_cons (ps_set (i := 11) scGoing.nd rfl (.inl rfl) (pe_ifExp (pt_cmpR op_eq (pv 10) pe_str (nomark _)) (pv 5) (pe_ifExp (PW.pt (pw_and (pt_cmpR op_eq (pv 10) pe_str (nomark _)) (pw_and1 (pt_cmpR op_gt (pe_fn FD hr1 (by rfl) pass0 (pa_cons (pv 0) (pa_cons pe_int pa_nil))) pe_int (nomark _))))) (pe_op op_sub pe_int (pv 5)) (pv 11))))
        (pss_one (xs_append (pv 7) (pe_tup (pa_cons (pv 10) (pa_cons (pv 11) pa_nil))))))))
      (pss_cons (xs_append (pv 2) (pe_tup (pa_cons (pv 5) (pa_cons (pv 6) (pa_cons (pv 7) pa_nil)))))
      (pss_one (ps_set (i := 3) scGoing.nd rfl (.inl rfl) (pe_op op_cat (pv 7) (xe_slFrom (K := K) (pv 3) (xe_len (K := K) m4 (pv 6)))))))))))
    (pss_one (ps_ret (pv 2)))), ?_⟩
  refine ⟨by show 0 ≤ sizeLine; omega, fun p hp => ⟨by show 0 ≤ sizeLine; omega, fun pm hpm => ⟨_, _, rfl, ?_⟩⟩⟩
  have g0 : GrW W G H [p] G (upd H p (.lst [])) := (GrW.start hG hcl).new hw hp
  have hw0 : WOk W n (upd H p (.lst [])) := hw.up (same_new hp)
  have em : Ext G (upd H p (.lst [])) (upd G pm (.lst [])) (upd (upd H p (.lst [])) pm (.lst [])) := .new g0.x.gh hpm
  obtain ⟨g1, hw1⟩ := g0.pure hw hw0 em
  have dm1 : Dq (joinG G (upd G pm (.lst []))) (.ref pm) (.list (([] : List Lay).map encL)) := joinG_dq em.gg (.lst upd_same .nil)
  have hp1 : upd (upd H p (.lst [])) pm (.lst []) p = some (.lst []) := em.hh _ _ upd_same
  generalize joinG G (upd G pm (.lst [])) = G1 at g1 dm1
  generalize upd (upd H p (.lst [])) pm (.lst []) = H1 at g1 hw1 hp1
  have mp : p ∈ [p] := List.mem_cons_self ..
  have key1 : PN W (tOp (rI0 fun i j => .int (i + j)) (tC (.int 1)) (tCall (spS W.t (fun _ => 1) prDraw DDraw) [] E0 (tCons (tVar 0) (tCons (tVar 1) tNil)))) [some (.ref W.st), some (.int (4 : Nat)), some (.ref p), some (.ref pm), none, none, none, none, none, none, none, none] G1 (0 + 1) (fun d => ∃ j : Nat, d = .int j ∧ 0 < j ∧ j ≤ 4) :=
    PN_op (D1 := (· = .int 1)) (D2 := fun d => ∃ j : Nat, d = .int j ∧ j < 4) (fun a b ha hb => by
      obtain ⟨j, rfl, hj⟩ := hb
      subst ha
      exact ⟨_, ⟨1 + j, by simp, by omega, by omega⟩, RR2_addI⟩) (PN_of PR_int) (PN_draw rfl (PV (i := 1) (.int _)) (by decide) (by decide))
  refine key1 _ n _ g1.x.gh g1.x.cl hw1 (by omega) fun d v G2 H2 hd1 x2 hw2 dv => ?_
  obtain ⟨k1, rfl, hk0, hk1⟩ := hd1
  cases dv
  have g2 := g1.ext hw x2
  refine ⟨k1, rfl, by omega, by omega, ?_⟩
  rw [Int.toNat_natCast]
  refine for_range (lo := 0) (n := k1) (fun i σ H' => ∃ (G' : Hp) (acc : List V) (ss : List Stp) (vm : V) (ms : List Lay) (x4 x5 x6 x7 x8 x9 x10 x11 : Option V), σ = [some (.ref W.st), some (.int (4 : Nat)), some (.ref p), some vm, x4, x5, x6, x7, x8, x9, x10, x11] ∧ GrW W G H [p] G' H' ∧ WOk W (n + 1 + 13 * i) H' ∧ H' p = some (.lst acc) ∧ DqAll G' acc (ss.map encS) ∧ ss.length = i ∧ (∀ s ∈ ss, StepD s) ∧ (∀ s, ss[0]? = some s → s.part = 0 ∧ s.tk = []) ∧ Dq G' vm (.list (ms.map encL)) ∧ (∀ l ∈ ms, okLay l) ∧ ms.length ≤ 3 * i) ?_ ?_ ?_
  · exact ⟨G2, [], [], _, [], none, none, none, none, none, none, none, none, rfl, g2, by simpa using hw2, grw_keep g1 hw x2 mp hp1, .nil, rfl, (fun s h => by cases h), (fun s h => by simp at h), dm1.up x2.gg, (fun l h => by cases h), Nat.zero_le _⟩
  · rintro i σ H3 hi ⟨G3, acc, ss, vm, ms, x4, x5, x6, x7, x8, x9, x10, x11, rfl, g3, hw3, h3, d3, hlen, hss, hs0, dm3, hms, hml⟩
    rw [show (0 : Int) + (i : Int) = (i : Int) from Int.zero_add _]
    -- part, takes, puts
    have keya : PN W (tIf (tOr (tTest (tOp (rI0 fun i j => .bl (decide (j < i))) (tCall (spS W.t (fun _ => 1) prDraw DDraw) [] E0 (tCons (tVar 0) (tCons (tC (.int 8)) tNil))) (tC (.int 0)))) (tTest (tOp rEq (tVar 4) (tC (.int 0))))) (tOp (rI (fun _ j => 0 < j) fun i j => .int (i % j)) (tVar 4) (tC (.int 2))) (tCall (spS W.t (fun _ => 1) prDraw DDraw) [] E0 (tCons (tVar 0) (tCons (tC (.int 2)) tNil))))
        [some (.ref W.st), some (.int (4 : Nat)), some (.ref p), some vm, some (.int i), x5, x6, x7, x8, x9, x10, x11] G3 2 (fun d => ∃ q : Nat, d = .int q ∧ q ≤ 1 ∧ (i = 0 → q = 0)) := by
      refine PN.imp (PN_ifN (B := fun b => i = 0 → b = true) (c2 := 1) (TN_orN (B1 := fun _ => True) (B2 := fun b => b = decide ((i : Int) = 0)) (TN_drawGt rfl (by decide) (by decide)) (fun _ => TN_of (TR_test (PR_op RR2_eqI (PV (i := 4) (.int _)) PR_int))) (fun _ _ => rfl) fun b e h => by rw [e, decide_eq_true]; omega)
        (fun _ => (PN_of (PR_op (RR2_I (C := fun _ j => 0 < j) (by decide)) (PV (i := 4) (.int _)) PR_int)).imp (by omega) fun d e => ⟨i % 2, by rw [e]; rfl, by omega, fun h => by rw [h]⟩) fun hb => (PN_draw (m := 2) rfl PR_int (by decide) (by decide)).imp (Nat.le_refl _) fun d ⟨j, e, hj⟩ => ⟨j, e, by omega, fun h => absurd (hb h) (by decide)⟩) (by omega) fun _ h => h
    refine keya H3 _ _ g3.x.gh g3.x.cl hw3 (by omega) fun d va G4 H4 ⟨part, e, hp1', hp0⟩ x4' hw4 da => ⟨by show 0 ≤ sizeLine; omega, fun p6 hp6 => ⟨by show 0 ≤ sizeLine; omega, fun p7 hp7 => ⟨_, _, _, rfl, ?_⟩⟩⟩
    subst e
    cases da
    have g4 := g3.ext hw x4'
    have h4 := grw_keep g3 hw x4' mp h3
    have g5 : GrW W G H [p7, p6, p] G4 (upd (upd H4 p6 (.lst [])) p7 (.lst [])) := (g4.new hw hp6).new hw hp7
    have hw5 : WOk W (n + 1 + 13 * i + 2) (upd (upd H4 p6 (.lst [])) p7 (.lst [])) := (hw4.up (same_new hp6)).up (same_new hp7)
    have n67 : p6 ≠ p7 := ne_of_none upd_same hp7
    have h5p : upd (upd H4 p6 (.lst [])) p7 (.lst []) p = some (.lst acc) := same_new hp7 _ _ (same_new hp6 _ _ h4)
    have h56 : upd (upd H4 p6 (.lst [])) p7 (.lst []) p6 = some (.lst []) := same_new hp7 _ _ upd_same
    have h57 : upd (upd H4 p6 (.lst [])) p7 (.lst []) p7 = some (.lst []) := upd_same
    have m6 : p6 ∈ [p7, p6, p] := by simp
    have m7 : p7 ∈ [p7, p6, p] := by simp
    have m_p : p ∈ [p7, p6, p] := by simp
    have nd := g5.nd
    simp only [List.nodup_cons, List.mem_cons, List.not_mem_nil, or_false, not_or, not_false_eq_true, and_true] at nd
    obtain ⟨⟨n76, n7p⟩, n6p, _⟩ := nd
    generalize upd (upd H4 p6 (.lst [])) p7 (.lst []) = H5 at g5 hw5 h5p h56 h57
    have dm4 := dm3.up x4'.gg
    have d4 := d3.up x4'.gg
    -- the layers that are taken
    have keyb : PN W (tSl (rSlL K) (tVar 3) tNoPart (tPart (tCB (fun xs H Q => ∃ i j, xs = [.int i, .int j] ∧ Q (.int (if j < i then j else i)) H) (tCons (tC (.int 3)) (tCons (tCB (fun xs H Q => ∃ i j, xs = [.int i, .int j] ∧ Q (.int (if j > i then j else i)) H) (tCons (tC (.int 1)) (tCons (tOp (rI0 fun i j => .int (i - j)) (tCB (rLenQ K) (tCons (tVar 3) tNil)) (tOp (rI CDiv fun i j => .int (i / j)) (tCall (spS W.t (fun _ => 1) prDraw DDraw) [] E0 (tCons (tVar 0) (tCons (tC (.int 5)) tNil))) (tC (.int 4)))) tNil))) tNil)))))
        [some (.ref W.st), some (.int (4 : Nat)), some (.ref p), some vm, some (.int i), some (.int part), some (.ref p6), some (.ref p7), x8, x9, x10, x11] G4 1 (fun d => ∃ q, q ≤ 3 ∧ d = .list ((ms.take q).map encL)) := by
      refine PN.imp (PN_slTo (D1 := (· = .list (ms.map encL))) (D2 := fun d => ∃ q : Nat, d = .int q ∧ q ≤ 3) (PN_of (PV (i := 3) dm4)) (PN_CB (DS := fun l => ∃ a as, l = a :: as ∧ a = .int 3 ∧ ∃ b bs, as = b :: bs ∧ (∃ z : Int, b = .int z ∧ 1 ≤ z) ∧ bs = []) (fun ds ⟨a, as, e1, e2, b, bs, e3, ⟨z, e4, hz⟩, e5⟩ => ?_) (PNA_cons (PN_of PR_int) (PNA_cons (PN_CB (DS := fun l => ∃ a as, l = a :: as ∧ a = .int 1 ∧ ∃ b bs, as = b :: bs ∧ (∃ z : Int, b = .int z) ∧ bs = []) (fun ds ⟨a, as, e1, e2, b, bs, e3, ⟨z, e4⟩, e5⟩ => ?_) (PNA_cons (PN_of PR_int) (PNA_cons (PN_op (D1 := (· = .int ms.length)) (D2 := fun d => ∃ z : Int, d = .int z) (fun a b ha ⟨z, hb⟩ => ?_) (PN_of (lenLs (PV (i := 3) dm4)))
        (PN_op (D1 := fun d => ∃ z : Int, d = .int z) (D2 := (· = .int 4)) (fun a b ⟨z, ha⟩ hb => ?_) ((PN_draw (m := 5) rfl PR_int (by decide) (by decide)).imp (Nat.le_refl _) fun d ⟨j, e, _⟩ => ⟨j, e⟩) (PN_of PR_int))) PNA_nil))) PNA_nil))) fun a b ha ⟨q, hb, hq⟩ => ⟨_, q, ha, hb, q, hq, by rw [List.map_take]⟩) (by omega) fun _ h => h
      · subst e1 e2 e3 e4 e5
        exact ⟨_, ⟨(min 3 z).toNat, by congr 1; omega, by omega⟩, RR_min2⟩
      · subst e1 e2 e3 e4 e5
        exact ⟨_, ⟨max 1 z, rfl, by omega⟩, RR_max2⟩
      · subst ha hb
        exact ⟨_, ⟨_, rfl⟩, RR2_subI⟩
      · subst ha hb
        exact ⟨_, ⟨_, rfl⟩, RR2_I (C := CDiv) ⟨by decide, by decide⟩⟩
    refine tForN_use g5.x.gh g5.x.cl hw5 (by omega) (WN_list (DL := fun ds => ∃ q, q ≤ 3 ∧ ds = (ms.take q).map encL) keyb fun d ⟨q, hq, e⟩ => ⟨_, e, q, hq, rfl⟩) fun ds J G6 H6 ⟨q, hq, e⟩ x6' hw6 dw => ?_
    subst e
    have g6 := g5.ext hw x6'
    refine for_nmB dw (fun j σ H' => ∃ G' ac tk x8, σ = [some (.ref W.st), some (.int (4 : Nat)), some (.ref p), some vm, some (.int i), some (.int part), some (.ref p6), some (.ref p7), x8, x9, x10, x11] ∧ GrW W G H [p7, p6, p] G' H' ∧ WOk W (n + 1 + 13 * i + 2 + 1) H' ∧ Same G6 G' ∧ H' p = some (.lst acc) ∧ H' p6 = some (.lst ac) ∧ H' p7 = some (.lst []) ∧ DqAll G' ac (tk.map encL) ∧ tk.length ≤ j ∧ (∀ l ∈ tk, okLay l ∧ l ≠ (Kd.ci, 1 - part)) ∧ (i = 0 → tk = []))
      (fun σ H' => ∃ G' ac tk x8, σ = [some (.ref W.st), some (.int (4 : Nat)), some (.ref p), some vm, some (.int i), some (.int part), some (.ref p6), some (.ref p7), x8, x9, x10, x11] ∧ GrW W G H [p7, p6, p] G' H' ∧ WOk W (n + 1 + 13 * i + 2 + 1) H' ∧ Same G6 G' ∧ H' p = some (.lst acc) ∧ H' p6 = some (.lst ac) ∧ H' p7 = some (.lst []) ∧ DqAll G' ac (tk.map encL) ∧ tk.length ≤ 3 ∧ (∀ l ∈ tk, okLay l ∧ l ≠ (Kd.ci, 1 - part)) ∧ (i = 0 → tk = []))
      ⟨G6, [], [], x8, rfl, g6, hw6, Same.refl _, grw_keep g5 hw x6' m_p h5p, grw_keep g5 hw x6' m6 h56, grw_keep g5 hw x6' m7 h57, .nil, Nat.zero_le _, (fun l h => by cases h), fun _ => rfl⟩ ?_ ?_ ?_ ?_
    · rintro j σ H' hj ⟨G', ac, tk, x8, _, g, _, s, _⟩
      exact s.trans g.x.gh
    · -- behind the loop
      rintro σ H7 ⟨G7, ac, tk, x8, rfl, g7, hw7, s7, h7p, h76, h77, d7, htl, htk, ht0⟩
      have keyc : PN W (tOp (rI0 fun i j => .int (i + j)) (tC (.int 1)) (tCall (spS W.t (fun _ => 1) prDraw DDraw) [] E0 (tCons (tVar 0) (tCons (tC (.int 3)) tNil)))) [some (.ref W.st), some (.int (4 : Nat)), some (.ref p), some vm, some (.int i), some (.int part), some (.ref p6), some (.ref p7), x8, x9, x10, x11] G7 (0 + 1) (fun d => ∃ j : Nat, d = .int j ∧ j ≤ 3) :=
        PN_op (D1 := (· = .int 1)) (D2 := fun d => ∃ j : Nat, d = .int j ∧ j < 3) (fun a b ha hb => by
          obtain ⟨j, rfl, hj⟩ := hb
          subst ha
          exact ⟨_, ⟨1 + j, by simp, by omega⟩, RR2_addI⟩) (PN_of PR_int) (PN_draw (m := 3) rfl PR_int (by decide) (by decide))
      refine keyc _ _ _ g7.x.gh g7.x.cl hw7 (by omega) fun d v G8 H8 ⟨k2, e, hk2⟩ x8' hw8 dv => ?_
      subst e
      cases dv
      have g8 := g7.ext hw x8'
      refine ⟨k2, rfl, by omega, by omega, ?_⟩
      rw [Int.toNat_natCast]
      refine for_range (lo := 0) (n := k2) (fun j σ H' => ∃ (G' : Hp) (ac7 : List V) (pt : List Lay) (y9 y10 y11 : Option V), σ = [some (.ref W.st), some (.int (4 : Nat)), some (.ref p), some vm, some (.int i), some (.int part), some (.ref p6), some (.ref p7), x8, y9, y10, y11] ∧ GrW W G H [p7, p6, p] G' H' ∧ WOk W (n + 1 + 13 * i + 2 + 1 + 1 + 3 * j) H' ∧ Same G8 G' ∧ H' p = some (.lst acc) ∧ H' p6 = some (.lst ac) ∧ H' p7 = some (.lst ac7) ∧ DqAll G' ac7 (pt.map encL) ∧ pt.length = j ∧ ∀ l ∈ pt, okLay l ∧ l ≠ (Kd.se, 1 - part)) ?_ ?_ ?_
      · exact ⟨G8, [], [], x9, x10, x11, rfl, g8, by simpa using hw8, Same.refl _, grw_keep g7 hw x8' m_p h7p, grw_keep g7 hw x8' m6 h76, grw_keep g7 hw x8' m7 h77, .nil, rfl, fun l h => by cases h⟩
      · rintro j σ H9 hj ⟨G9, ac7, pt, y9, y10, y11, rfl, g9, hw9, s9, h9p, h96, h97, d9, hpl, hpt⟩
        have hal := d9.len
        rw [List.length_map] at hal
        refine turn_put g9 hw hw9 m7 (by omega) hp1' h97 (by omega) fun l v G10 H10 z10 z11 ok ne g10 hw10 s10 dv h10 keep => ?_
        refine ⟨G10, ac7 ++ [v], pt ++ [l], _, z10, z11, rfl, g10, by rw [Nat.mul_add, ← Nat.add_assoc]; exact hw10, s9.trans s10, keep p acc m_p (Ne.symm n7p) h9p, keep p6 ac m6 n67 h96, h10, by rw [List.map_append]; exact (d9.up s10).snoc dv, by simp [hpl], fun l' hl' => ?_⟩
        rcases List.mem_append.mp hl' with h | h
        · exact hpt l' h
        · rw [List.mem_singleton.mp h]; exact ⟨ok, ne⟩
      · rintro σ H9 ⟨G9, ac7, pt, y9, y10, y11, rfl, g9, hw9, s9, h9p, h96, h97, d9, hpl, hpt⟩
        obtain ⟨g10, s10⟩ := g9.freeze hw h97
        obtain ⟨g11, s11⟩ := g10.freeze hw h96
        have s79 : Same G7 G9 := x8'.gg.trans s9
        have dq7 : Dq (upd (upd G9 p7 (.lst ac7)) p6 (.lst ac)) (.ref p7) (.list (pt.map encL)) := Dq.up (.lst upd_same (d9.up s10)) s11
        have dq6 : Dq (upd (upd G9 p7 (.lst ac7)) p6 (.lst ac)) (.ref p6) (.list (tk.map encL)) := .lst upd_same (((d7.up s79).up s10).up s11)
        have s4x : Same G4 (upd (upd G9 p7 (.lst ac7)) p6 (.lst ac)) := (((x6'.gg.trans s7).trans s79).trans s10).trans s11
        have dmx := dm4.up s4x
        have d4x := d4.up s4x
        generalize upd (upd G9 p7 (.lst ac7)) p6 (.lst ac) = Gx at g11 dq7 dq6 dmx d4x
        have lk := d4x.len
        rw [List.length_map] at lk
        refine put_appendW (d := encS ⟨part, tk, pt⟩) g11 hw hw9 mp rfl h9p (PR_tup (PRA_cons (PV (i := 5) (.int _)) (PRA_two (PV (i := 6) dq6) (PV (i := 7) dq7))) (by show 3 ≤ sizeLine; omega)) (by omega) fun v12 G12 H12 g12 hw12 s12 d12 h12 _ => ?_
        have cat : PR (tOp rCat (tVar 7) (tSl (rSlL K) (tVar 3) (tPart (tCB (rLenQ K) (tCons (tVar 6) tNil))) tNoPart)) [some (.ref W.st), some (.int (4 : Nat)), some (.ref p), some vm, some (.int i), some (.int part), some (.ref p6), some (.ref p7), x8, y9, y10, y11] G12 (.list ((pt ++ ms.drop tk.length).map encL)) :=
          (PR_op (RR2_cat (by simp; omega)) (PV (i := 7) (dq7.up s12)) (PR_slFrom (PV (i := 3) (dmx.up s12)) (lenLs (PV (i := 6) (dq6.up s12))))).eq (by simp [List.map_drop])
        refine cat H12 _ g12.x.gh fun v13 G13 H13 e13 d13 => ?_
        obtain ⟨g13, hw13⟩ := g12.pure hw hw12 e13
        have hst : StepD ⟨part, tk, pt⟩ := by
          refine ⟨⟨hp1', ⟨by show tk.length ≤ 1000; omega, fun l hl => (htk l hl).1⟩, ⟨by show pt.length ≤ 1000; omega, fun l hl => (hpt l hl).1⟩⟩, ?_, htl, by show pt.length ≤ 3; omega⟩
          have h1 : hasL tk (.ci, 1 - part) = false := List.any_eq_false.mpr fun l hl => by simpa using (htk l hl).2
          have h2 : hasL pt (.se, 1 - part) = false := List.any_eq_false.mpr fun l hl => by simpa using (hpt l hl).2
          show (!hasL tk (.ci, 1 - part) && !hasL pt (.se, 1 - part)) = true
          rw [h1, h2]; rfl
        refine ⟨_, acc ++ [v12], ss ++ [⟨part, tk, pt⟩], v13, pt ++ ms.drop tk.length, _, _, _, _, _, _, _, _, rfl, g13, hw13.mono (by omega), e13.hh _ _ h12, ?_, by simp [hlen], fun s hs => ?_, fun s hs => ?_, joinG_dq e13.gg d13, fun l hl => ?_, by simp; omega⟩
        · rw [List.map_append]
          exact ((d4x.up s12).snoc d12).up joinG_same
        · rcases List.mem_append.mp hs with h | h
          · exact hss s h
          · rw [List.mem_singleton.mp h]; exact hst
        · cases ss with
          | nil =>
            have hi0 : i = 0 := hlen.symm
            have : (⟨part, tk, pt⟩ : Stp) = s := by simpa using hs
            subst this
            exact ⟨hp0 hi0, ht0 hi0⟩
          | cons a as => exact hs0 s (by simpa using hs)
        · rcases List.mem_append.mp hl with h | h
          · exact (hpt l h).1
          · exact hms l (List.mem_of_mem_drop h)
    · rintro kp j d x σ H7 H7' hd' ⟨G7, ac, tk, x8, rfl, g7, hw7, s7, h7p, h76, h77, d7, htl, htk, ht0⟩ e7 y
      obtain ⟨l, hl1, rfl⟩ := get_map hd'
      have hjq : j < 3 := by
        have := (List.getElem?_eq_some_iff.mp hl1).1
        rw [List.length_take] at this
        omega
      have hlm : l ∈ ms := List.mem_of_mem_take (List.mem_of_getElem? hl1)
      obtain ⟨G8, g8, hw8, s8, dx⟩ := g7.yld hw hw7 s7 y
      have h8p := e7 _ _ h7p
      have h86 := e7 _ _ h76
      have h87 := e7 _ _ h77
      refine tIf_use (b := decide (l = (Kd.ci, 1 - part)) || decide (i = 0)) (TR_or (TR.eq (TR_test (PR_op (RR2_eq ((encL_sh l).shaped (by decide)) ((encL_sh (.ci, 1 - part)).shaped (by decide))) (PV (σ := [some (.ref W.st), some (.int (4 : Nat)), some (.ref p), some vm, some (.int i), some (.int part), some (.ref p6), some (.ref p7), some x, x9, x10, x11]) (i := 8) dx) ((PR_tup (PRA_two PR_str (PR_op RR2_subI PR_int (PV (i := 5) (.int _)))) (by show 2 ≤ sizeLine; omega)).eq (by
          have e : ((1 - part : Nat) : Int) = 1 - (part : Int) := by omega
          simp only [encL]
          rw [e]; rfl)))) (eqv_lay _ _)) fun _ => TR.eq (TR_test (PR_op RR2_eqI (PV (i := 4) (.int _)) PR_int)) (decide_eq_decide.mpr (by omega))) g8.x.gh fun H9 e9 => ?_
      have g9 := g8.same hw e9
      have hw9 := hw8.up e9
      by_cases hb : l = (Kd.ci, 1 - part) ∨ i = 0
      · rw [show (decide (l = (Kd.ci, 1 - part)) || decide (i = 0)) = true by rw [← Bool.decide_or]; exact decide_eq_true hb]
        refine iteT ?_
        exact kp _ _ ⟨G8, ac, tk, some x, rfl, g9, hw9, s7.trans s8, e9 _ _ h8p, e9 _ _ h86, e9 _ _ h87, d7.up s8, by omega, htk, ht0⟩
      · rw [show (decide (l = (Kd.ci, 1 - part)) || decide (i = 0)) = false by rw [← Bool.decide_or]; exact decide_eq_false hb]
        rw [not_or] at hb
        refine iteF (nxt ?_)
        have lk := d7.len
        rw [List.length_map] at lk
        refine put_appendW (d := encL l) g9 hw hw9 m6 rfl (e9 _ _ h86) (PV (i := 8) dx) (by omega) fun v G10 H10 g10 hw10 s10 dv h10 keep => ?_
        refine ⟨G10, ac ++ [v], tk ++ [l], some x, rfl, g10, hw10, (s7.trans s8).trans s10, keep p _ (Ne.symm n6p) (e9 _ _ h8p), h10, keep p7 _ (Ne.symm n67) (e9 _ _ h87), by rw [List.map_append]; exact ((d7.up s8).up s10).snoc dv, by simp; omega, fun l' hl' => ?_, fun h => absurd h hb.2⟩
        rcases List.mem_append.mp hl' with h | h
        · exact htk l' h
        · rw [List.mem_singleton.mp h]; exact ⟨hms l hlm, hb.1⟩
    · rintro σ H7 ⟨G7, ac, tk, x8, e, g7, hw7, s7, h7p, h76, h77, d7, htl, htk, ht0⟩
      refine ⟨G7, ac, tk, x8, e, g7, hw7, s7, h7p, h76, h77, d7, ?_, htk, ht0⟩
      rw [List.length_map, List.length_take] at htl
      omega
  · rintro σ H3 ⟨G3, acc, ss, vm, ms, x4, x5, x6, x7, x8, x9, x10, x11, rfl, g3, hw3, h3, d3, hlen, hss, hs0, dm3, hms, hml⟩
    obtain ⟨g4, s4⟩ := g3.freeze hw h3
    have hR : Right ss ∧ ss.length ≤ 4 ∧ Few 3 ss := by
      cases ss with
      | nil => simp at hlen; omega
      | cons a as =>
        obtain ⟨e1, e2⟩ := hs0 a rfl
        refine right_of e1 e2 (hss a (List.mem_cons_self ..)) (fun s hs => hss s (List.mem_cons_of_mem _ hs)) ?_
        rw [List.length_cons] at hlen
        omega
    exact ⟨_, rfl, kq (encSS ss) _ _ _ ⟨ss, rfl, hR.1, hR.2.1, hR.2.2⟩ g4.x (hw3.mono (by show _ ≤ n + 100; omega)) (.lst upd_same (d3.up s4))⟩
end
end K50
set_option Elab.async false
set_option linter.all false
set_option maxRecDepth 100000
set_option maxHeartbeats 4000000
/-! K51b: _law_met -/
namespace K50
open PySem PySem.Spec PyProof.Rows L2 PD StX RZ NdefX LamX
section
variable {P : Program} {w : World} {K : PySem.W.Frag} {mg : Str → Option Value} {base : Heap} {G H G' H' : Hp}
/-! ### a call whose exceptions a clause takes -/
def tCallW (P : Program) (w : World) (K : PySem.W.Frag) (mg : Str → Option Value) (base : Heap) (k i : Nat) (W : WX) : TE := fun σ H Q => ∃ f sp, σ[i]? = some (some (.ref f)) ∧ IsFn f H ∧ Cal P w K mg base k f 0 sp ∧ sp [] H Q (fun cls d H' => W cls d σ H')
theorem pe_callW {X : Cx} {k i : Nat} {x : Str} {p pos : Pos} {W : WX} (hr : Room k X.A) (tk : Takes X W) (hN : X.N[i]? = some x) (hv : Vis X.env.scope x) (hd : (x == ("__debug__" : Str)) = false := by decide) (hcd : (x == ("__classdict__" : Str)) = false := by decide) :
    PE X (.Call (.Name x p) [] [] pos) (tCallW X.prog X.w X.K X.mg X.base k i W) := by
  refine ⟨fun pins s σ H Q I0 ⟨f, sp, hs, hf, c, q⟩ => ?_⟩
  refine wpAny_Call_Name_kw (thn ((pe_var (pos := p) hN hv hd hcd).run pins s σ H (fun v H1 => v = .ref f ∧ H1 = H) I0 ⟨.ref f, hs, rfl, rfl⟩) fun u s1 ⟨v, H1, I, r1, ev, eH⟩ => ?_)
  subst ev eH
  obtain rfl : u = Value.ref f := r1
  refine PySem.W.callWith_F0 (first := []) (fnAt_is I hf) (wpAny_call (codeAny_mono (c.run X.A X.stack s1 _ [] [] Q _ hr I.env0 rfl .nil q) fun r s' hq => ?_))
  cases r with
  | error e => exact tk e s' (XE.of_call I (fun cls d H' h => h) hq)
  | ok fl =>
    cases fl with
    | ret u => exact I.after hq
    | next => exact hq.elim
    | brk => exact hq.elim
    | cont => exact hq.elim
abbrev sMet : Stmt := top 59
abbrev nMet : List Str := ["_law_ask", "e"]
theorem scMet : FnScope nMet ["_law_ask"] (defScope sMet) := ⟨rfl, rfl, rfl, by decide +kernel, rfl, by decide +kernel, by decide +kernel⟩
/-- the error classes -/
structure Errs (K : PySem.W.Frag) (mg : Str → Option Value) (CP CL CM : Addr) : Prop where
  xP : XfC K CP
  xL : XfC K CL
  xM : XfC K CM
  nP : PySem.W.findIn K (.ref CP) "protocol" = some none
  nL : PySem.W.findIn K (.ref CL) "layers" = some none
  nM : PySem.W.findIn K (.ref CM) "mend" = some none
  gP : mg "BadProtocol" = some (.ref CP)
  gL : mg "BadLayers" = some (.ref CL)
  gM : mg "BadMend" = some (.ref CM)
  pp : PySem.W.exmOne K (.ref CP) (.ref CP) = some true
  lp : PySem.W.exmOne K (.ref CL) (.ref CP) = some false
  ll : PySem.W.exmOne K (.ref CL) (.ref CL) = some true
  mp : PySem.W.exmOne K (.ref CM) (.ref CP) = some false
  ml : PySem.W.exmOne K (.ref CM) (.ref CL) = some false
  mm : PySem.W.exmOne K (.ref CM) (.ref CM) = some true
/-- which error, its field, its tag -/
def Case (CP CL CM C0 : Addr) (fld tag : Str) : Prop := (C0 = CP ∧ fld = "protocol" ∧ tag = "protocol") ∨ (C0 = CL ∧ fld = "layers" ∧ tag = "layers") ∨ (C0 = CM ∧ fld = "mend" ∧ tag = "mend")
def spMet (P : Program) (w : World) (K : PySem.W.Frag) (mg : Str → Option Value) (base : Heap) (CP CL CM : Addr) (k : Nat) : Sp := fun vs H Q _ => ∃ f sp, vs = [.ref f] ∧ IsFn f H ∧ Cal P w K mg base k f 0 sp ∧ ∀ (Q2 : VK) (E2 : XK), (∀ v H1, (∀ p, H1 p = none → Q (.ref p) (upd H1 p (.tup [.str "told", v]))) → Q2 v H1) →
  (∀ C0 fld tag dx v H1, Case CP CL CM C0 fld tag → H1 dx = some (.xd [(fld, v)]) → (∀ p, H1 p = none → Q (.ref p) (upd H1 p (.tup [.str tag, v]))) → E2 (.ref C0) (some dx) H1) → sp [] H Q2 E2
theorem fn_met {CP CL CM : Addr} {k : Nat} (D : Df K mg "_law_met" sMet) (T : Errs K mg CP CL CM) : Fn P w K mg base CX0 "_law_met" (k + 1) 1 (spMet P w K mg base CP CL CM k) := by
  refine D.fn scMet (by rintro vs H Q E ⟨f, sp, rfl, _⟩; rfl) rfl (fun _ _ _ _ _ _ us hl => match us, hl with | [_], _ => rfl) fun f cdv A outer s H vs Q E hr hsp => ?_
  obtain ⟨fa, sp, rfl, hf, cal, q⟩ := hsp
  refine ⟨_, pss_one (ps_try_manyAs (n := "e") (i := 1) (Wout := fun _ _ _ _ => False) (tb := fun W => tRet (tTup (tCons (tC (.str "told")) (tCons (tCallW P w K mg base k 0 W) tNil)))) rfl rfl scMet.nd rfl rfl (fun u s' ⟨_, _, _, _, _, _, _, _, _, _, _, _, _, _, _, _, z⟩ => z.elim)
    (fun W pn xe tk _ => pss_one (ps_ret (pe_tup (pa_cons pe_str (pa_cons (pe_callW hr tk rfl (.inl rfl)) pa_nil)))))
    (.cons (c := .ref CP) (ts := fun a cls d => tRet (tTup (tCons (tC (.str "protocol")) (tCons (tXf a cls d CP "protocol" (tVar 1)) tNil)))) ⟨rfl, rfl, .inl T.gP⟩ (fun a o cls d pn hz hv => pss_one (ps_ret (pe_tup (pa_cons pe_str (pa_cons (pe_xf T.xP T.nP hz hv (pv 1)) pa_nil)))))
      (.cons (c := .ref CL) (ts := fun a cls d => tRet (tTup (tCons (tC (.str "layers")) (tCons (tXf a cls d CL "layers" (tVar 1)) tNil)))) ⟨rfl, rfl, .inl T.gL⟩ (fun a o cls d pn hz hv => pss_one (ps_ret (pe_tup (pa_cons pe_str (pa_cons (pe_xf T.xL T.nL hz hv (pv 1)) pa_nil)))))
        (.cons (c := .ref CM) (ts := fun a cls d => tRet (tTup (tCons (tC (.str "mend")) (tCons (tXf a cls d CM "mend" (tVar 1)) tNil)))) ⟨rfl, rfl, .inl T.gM⟩ (fun a o cls d pn hz hv => pss_one (ps_ret (pe_tup (pa_cons pe_str (pa_cons (pe_xf T.xM T.nM hz hv (pv 1)) pa_nil))))) .nil)))), ?_⟩
  have two : 2 ≤ sizeLine := by decide
  refine ⟨fa, sp, rfl, hf, cal, q _ _ (fun v H1 h => ⟨two, h⟩) fun C0 fld tag dx v H1 hc hx h => ?_⟩
  rcases hc with ⟨rfl, rfl, rfl⟩ | ⟨rfl, rfl, rfl⟩ | ⟨rfl, rfl, rfl⟩
  · exact ⟨true, T.pp, fun _ a _ => ⟨_, rfl, rfl, rfl, dx, _, v, rfl, hx, rfl, two, h⟩, fun z => nomatch z⟩
  · exact ⟨false, T.lp, (fun z => nomatch z), fun _ => ⟨true, T.ll, fun _ a _ => ⟨_, rfl, rfl, rfl, dx, _, v, rfl, hx, rfl, two, h⟩, fun z => nomatch z⟩⟩
  · exact ⟨false, T.mp, (fun z => nomatch z), fun _ => ⟨false, T.ml, (fun z => nomatch z), fun _ => ⟨true, T.mm, fun _ a _ => ⟨_, rfl, rfl, rfl, dx, _, v, rfl, hx, rfl, two, h⟩, fun z => nomatch z⟩⟩⟩
end
end K50
set_option Elab.async false
set_option linter.all false
set_option maxRecDepth 100000
set_option maxHeartbeats 4000000
/-! K51c: _law_near -/
namespace K50
open PySem PySem.Spec PyProof.Rows L2 PD StX RZ NdefX LamX
abbrev sNear : Stmt := top 63
/-! ### small objects -/
def leafB : PyData → Bool
  | .none => true
  | .bool _ => true
  | .int _ => true
  | .str s => PyData.strOk s
  | _ => false
def nearB : Nat → PyData → Bool
  | k + 1, .list ds => decide (ds.length ≤ 1000) && ds.all (nearB k)
  | k + 1, .tuple ds => decide (ds.length ≤ 1000) && ds.all (nearB k)
  | _, d => leafB d
def NearD (x : PyData) : Prop := (nearB 3 x = true ∨ x = .dict []) ∧ isL (at_ x 3) = false
theorem leaf_sh {d : PyData} (h : leafB d = true) : Sh 1 d ∧ isSeq d = false ∧ isD d = false := by
  cases d with
  | none => exact ⟨⟨rfl, by simp [PyData.depth]⟩, rfl, rfl⟩
  | bool b => exact ⟨⟨rfl, by simp [PyData.depth]⟩, rfl, rfl⟩
  | int i => exact ⟨⟨rfl, by simp [PyData.depth]⟩, rfl, rfl⟩
  | str x => exact ⟨⟨by rw [PyData.canLay0]; exact h, by simp [PyData.depth]⟩, rfl, rfl⟩
  | _ => cases h
theorem nearB_leaf {k : Nat} {d : PyData} (h : nearB k d = true) (h1 : isSeq d = false) : leafB d = true := by
  cases k with
  | zero => cases d <;> first | exact h | cases h1
  | succ k => cases d <;> first | exact h | cases h1
theorem nearB_items {k : Nat} {d : PyData} (h : nearB k d = true) (h1 : isSeq d = true) : ∃ j, k = j + 1 ∧ (itemsD d).length ≤ 1000 ∧ ∀ x ∈ itemsD d, nearB j x = true := by
  cases k with
  | zero => cases d <;> first | (cases h1; done) | (exact absurd h (by simp [nearB, leafB]))
  | succ k =>
    cases d with
    | list ds =>
      unfold nearB at h
      rw [Bool.and_eq_true, List.all_eq_true] at h
      exact ⟨k, rfl, of_decide_eq_true h.1, h.2⟩
    | tuple ds =>
      unfold nearB at h
      rw [Bool.and_eq_true, List.all_eq_true] at h
      exact ⟨k, rfl, of_decide_eq_true h.1, h.2⟩
    | _ => cases h1
theorem nearB_sh : ∀ (k : Nat) (d : PyData), nearB k d = true → Sh (k + 1) d
  | k, d, h => by
    cases h1 : isSeq d with
    | false => exact (leaf_sh (nearB_leaf h h1)).1.mono (by omega)
    | true =>
      obtain ⟨j, rfl, hl, hi⟩ := nearB_items h h1
      have : ShL (j + 1) (itemsD d) := fun x hx => nearB_sh j x (hi x hx)
      cases d with
      | list ds => exact this.list
      | tuple ds => exact this.tuple
      | _ => cases h1
theorem nearB_rel (C : Addr) : ∀ (k : Nat) (d : PyData), nearB k d = true → Rel C k d
  | k, d, h => by
    cases h1 : isSeq d with
    | false =>
      have h2 := leaf_sh (nearB_leaf h h1)
      exact .leaf h1 (fun z => by rw [h2.2.2] at z; cases z) fun _ => h2.1.shaped (by decide)
    | true =>
      obtain ⟨j, rfl, hl, hi⟩ := nearB_items h h1
      exact .seq h1 hl fun x hx => nearB_rel C j x (hi x hx)
theorem NearD.obj {x : PyData} (h : NearD x) : Obj 10 x := h.1.elim (fun h => .inl ((nearB_sh 3 x h).mono (by decide))) .inr
theorem NearD.rel {x : PyData} (h : NearD x) (C : Addr) : Rel C 3 x := h.1.elim (nearB_rel C 3 x) fun e => by
  subst e
  exact .leaf rfl (fun _ => rfl) fun z => by cases z
theorem kdOk : ∀ k : Kd, PyData.strOk k.str = true := fun k => by cases k <;> decide +kernel
theorem okAdd : PyData.strOk ("add" : Str) = true := by decide +kernel
theorem okShift : PyData.strOk ("shift" : Str) = true := by decide +kernel
theorem okWord : PyData.strOk ("word" : Str) = true := by decide +kernel
theorem okZero : PyData.strOk ("0" : Str) = true := by decide +kernel
theorem mend_parts (m : Mnd) : ∃ (w : Str) (i p : Int) (x : PyData), encM m = .tuple [.str w, .int i, .int p, x] ∧ nearB 2 x = true ∧ PyData.strOk w = true ∧ isL x = false := by
  cases m with
  | add i p l =>
    exact ⟨_, _, _, _, rfl, by simp [encL, nearB, leafB, kdOk], okAdd, rfl⟩
  | shift i p t => exact ⟨_, _, _, _, rfl, rfl, okShift, rfl⟩
def near0 : List PyData := [.none, .int 5, .str "add", .list [], .tuple [], .dict [], .tuple [.str "add"], .tuple [.str "add", .int 0, .int 0], .tuple [.str "put", .int 0, .int 0, .tuple [.str "word", .int 1]], .tuple [.str "shift", .int 0, .int 0, .int 0]]
def near1 (n : Nat) : List PyData := [.tuple [.str "add", .int n, .int 0, .tuple [.str "word", .int 1]], .tuple [.str "add", .int (-1), .int 0, .tuple [.str "word", .int 1]], .tuple [.str "add", .int 0, .int 0, .tuple [.str "word", .int 10]], .tuple [.str "add", .int 0, .int 0, .tuple [.str "cipher", .int 2]]]
def near2 : List PyData := [.tuple [.str "add", .int 0, .int 0, .tuple [.str "cipher", .str "ann"]], .tuple [.str "add", .bool true, .int 0, .tuple [.str "word", .int 1]], .tuple [.str "add", .int 0, .int 0, .none], .tuple [.list [.str "add"], .int 0, .int 0, .tuple [.str "word", .int 1]]]
theorem near0_ok : ∀ x ∈ near0, NearD x := fun x hx => by
  simp only [near0, List.mem_cons, List.not_mem_nil, or_false] at hx
  rcases hx with rfl | rfl | rfl | rfl | rfl | rfl | rfl | rfl | rfl | rfl <;> first | exact ⟨.inl (by decide +kernel), rfl⟩ | exact ⟨.inr rfl, rfl⟩
theorem near1_ok (n : Nat) : ∀ x ∈ near1 n, NearD x := fun x hx => by
  simp only [near1, List.mem_cons, List.not_mem_nil, or_false] at hx
  rcases hx with rfl | rfl | rfl | rfl
  · exact ⟨.inl (by simp [nearB, leafB, okAdd, okWord]), rfl⟩
  · exact ⟨.inl (by decide +kernel), rfl⟩
  · exact ⟨.inl (by decide +kernel), rfl⟩
  · exact ⟨.inl (by decide +kernel), rfl⟩
theorem near2_ok : ∀ x ∈ near2, NearD x := fun x hx => by
  simp only [near2, List.mem_cons, List.not_mem_nil, or_false] at hx
  rcases hx with rfl | rfl | rfl | rfl <;> exact ⟨.inl (by decide +kernel), rfl⟩
/-- a near thing that is a mend: its tuple -/
theorem NearD.tup {x : PyData} {m : Mnd} (h : NearD x) (hm : LzM x m) : tupD x = encM m := by
  cases m with
  | add i p l =>
    obtain ⟨y, hr, hl⟩ := hm
    have e : at_ x 3 = y := hr.at_eq rfl
    have hy := h.2
    rw [e] at hy
    rw [tupD, hr.items]
    rcases hl with rfl | rfl
    · cases hy
    · rfl
  | shift i p t =>
    rw [tupD, Row.items hm]; rfl
section
variable {P : Program} {w : World} {K : PySem.W.Frag} {mg : Str → Option Value} {base : Heap} {t : Tb} {W : Wl} {n m : Nat} {G H H0 : Hp} {σ : L2.St} {c c1 c2 : Nat}
theorem put_extendW {G0 H0 : Hp} {ps : List Addr} {p : Addr} {acc : List V} {i m0 : Nat} {te : TE} {D : Ends} {σ : L2.St} {ds : List PyData} (g : GrW W G0 H0 ps G H) (w0 : WOk W m0 H0) (wh : WOk W n H) (hp : p ∈ ps) (hσ : σ[i]? = some (some (.ref p))) (hx : H p = some (.lst acc)) (h : PR te σ G (.list ds)) (z : acc.length + ds.length ≤ sizeLine)
    (k : ∀ vs G1 H1, GrW W G0 H0 ps G1 H1 → WOk W n H1 → Same G G1 → DqAll G1 vs ds → H1 p = some (.lst (acc ++ vs)) → (∀ q o, q ≠ p → H q = some o → H1 q = some o) → D.nx σ H1) : tDrop (tBM K "list" rExtend (tVar i) (tCons te tNil)) D σ H := by
  refine ⟨_, hσ, .inl ⟨rfl, _, SqL.of hx⟩, h H _ g.x.gh fun v G1 H1 e1 dv => ?_⟩
  obtain ⟨g1, w1⟩ := g.pure w0 wh e1
  cases dv with
  | lst ha hall =>
    exact ⟨p, _, acc, _, rfl, rfl, e1.hh _ _ hx, e1.gh _ _ ha, by rw [hall.len]; exact z, k _ _ _ (g1.put hp) (g1.wput w0 w1 hp) joinG_same (joinG_all e1.gg hall) upd_same fun q o hq e => by rw [upd_ne hq]; exact e1.hh _ _ e⟩
theorem PR_neg {te : TE} {i : Int} (h : PR te σ G (.int i)) : PR (tUn (rU fun i => .int (-i)) te) σ G (.int (-i)) := fun H Q hs k => h H _ hs fun v G1 H1 e1 dv => by
  cases dv
  exact ⟨i, rfl, k _ G1 H1 e1 (.int _)⟩
theorem tAsgLst_use {t : TA} {g : TG} {De : Ends} {ds : List PyData} (hs : Same G H) (h : PRA t σ G ds) (hz : ds.length ≤ sizeLine) (k : ∀ vs G' H' p, Ext G H G' H' → DqAll G' vs ds → H' p = none → g (.ref p) σ (upd H' p (.lst vs)) De.nx) : tAsg (tLst t) g De σ H :=
  h H _ hs fun vs G' H' e dv => ⟨by rw [dv.len]; exact hz, fun p hp => k vs G' H' p e dv hp⟩
abbrev nNear : List Str := ["_law_stream_here", "_law_steps", "_law_some", "_law_found", "_law_turn", "_law_word", "_law_index", "_law_place", "_law_more", "_law_mend"]
theorem scNear : FnScope nNear ["_law_stream_here", "_law_steps", "_law_some"] (defScope sNear) := ⟨rfl, rfl, rfl, by decide +kernel, rfl, by decide +kernel, by decide +kernel⟩
def prNear (ds : List PyData) : Prop := ∃ (ss : List Stp) (ms : List Mnd), ds = [encSS ss, .list (ms.map encM)] ∧ ss ≠ [] ∧ ss.length ≤ 4 ∧ Few 3 ss ∧ ms.length ≤ 500
def DNear (ds : List PyData) (d : PyData) : Prop := ∃ xs, d = .list xs ∧ (∀ x ∈ xs, NearD x) ∧ xs.length ≤ 100
abbrev FNear (P : Program) (w : World) (K : PySem.W.Frag) (mg : Str → Option Value) (base : Heap) (t : Tb) : Prop := Fn P w K mg base CX0 "_law_near" 3 3 (spS t (fun _ => 1000) prNear DNear)
theorem fn_near (D : Df K mg "_law_near" sNear) (FD : FDraw P w K mg base t) (FP : FPick P w K mg base t) (FO : FRoomL P w K mg base) (FX : Fn P w K mg base CX0 "_law_mixed" 2 2 (spS t lenD prMixed DMixed)) (m1 : mg "range" = none) (m2 : mg "len" = none) (m3 : mg "list" = none) : FNear P w K mg base t := by
  refine D.fn scNear (by rintro vs H Q E ⟨W, G, ds, n, us, ht, rfl, hG, hcl, hw, hl, hd, ⟨ss, ms, rfl, _⟩, kq⟩; have := hd.len; simp at this; simp [this]) rfl (fun _ _ _ _ _ _ us hl => match us, hl with | [_, _, _], _ => rfl) fun f cdv A outer s H vs Q E hr hsp => ?_
  obtain ⟨W, G, ds, n, us, rfl, rfl, hG, hcl, hw, hl, hd, ⟨ss, ms, rfl, hne, hs4, hf3, hml⟩, kq⟩ := hsp
  obtain ⟨u1, u2, rfl, d1, d2⟩ := hd.two
  have hl : n + 1000 ≤ lim := hl
  have hsz : sizeLine = 16777216 := sizeLine_eq
  have hr1 : Room 1 _ := hr.mono (by decide : 1 ≤ 2)
  refine ⟨_, pss_cons (ps_set (i := 3) scNear.nd rfl (.inl rfl) (pe_lst (pa_cons pe_non (pa_cons pe_int (pa_cons pe_str (pa_cons (pe_lst pa_nil) (pa_cons (pe_tup pa_nil) (pa_cons pe_dnewK (pa_cons (pe_tup (pa_cons pe_str pa_nil)) (pa_cons (pe_tup (pa_cons pe_str (pa_cons pe_int (pa_cons pe_int pa_nil))))
      (pa_cons (pe_tup (pa_cons pe_str (pa_cons pe_int (pa_cons pe_int (pa_cons (pe_tup (pa_cons pe_str (pa_cons pe_int pa_nil))) pa_nil))))) (pa_cons (pe_tup (pa_cons pe_str (pa_cons pe_int (pa_cons pe_int (pa_cons pe_int pa_nil))))) pa_nil))))))))))))
    (pss_cons (xs_extend (pv 3) (pe_lst (pa_cons (pe_tup (pa_cons pe_str (pa_cons (xe_len (K := K) m2 (pv 1)) (pa_cons pe_int (pa_cons (pe_tup (pa_cons pe_str (pa_cons pe_int pa_nil))) pa_nil))))) (pa_cons (pe_tup (pa_cons pe_str (pa_cons (pe_un un_neg pe_int) (pa_cons pe_int (pa_cons (pe_tup (pa_cons pe_str (pa_cons pe_int pa_nil))) pa_nil)))))
      (pa_cons (pe_tup (pa_cons pe_str (pa_cons pe_int (pa_cons pe_int (pa_cons (pe_tup (pa_cons pe_str (pa_cons pe_int pa_nil))) pa_nil))))) (pa_cons (pe_tup (pa_cons pe_str (pa_cons pe_int (pa_cons pe_int (pa_cons (pe_tup (pa_cons pe_str (pa_cons pe_int pa_nil))) pa_nil))))) pa_nil))))))
    (pss_cons (xs_extend (pv 3) (pe_lst (pa_cons (pe_tup (pa_cons pe_str (pa_cons pe_int (pa_cons pe_int (pa_cons (pe_tup (pa_cons pe_str (pa_cons pe_str pa_nil))) pa_nil))))) (pa_cons (pe_tup (pa_cons pe_str (pa_cons pe_bl (pa_cons pe_int (pa_cons (pe_tup (pa_cons pe_str (pa_cons pe_int pa_nil))) pa_nil)))))
      (pa_cons (pe_tup (pa_cons pe_str (pa_cons pe_int (pa_cons pe_int (pa_cons pe_non pa_nil))))) (pa_cons (pe_tup (pa_cons (pe_lst (pa_cons pe_str pa_nil)) (pa_cons pe_int (pa_cons pe_int (pa_cons (pe_tup (pa_cons pe_str (pa_cons pe_int pa_nil))) pa_nil))))) pa_nil))))))
    (pss_cons (ps_for PassesOwn.never rfl (pi_range1 rfl m1 (pa_cons pe_int pa_nil)) (pg_name (i := 4) scNear.nd rfl (.inl rfl))
      (pss_cons (ps_par (i := 5) (j := 6) (by rfl) scNear.nd rfl rfl (by decide) rfl rfl (pa_cons (pe_fn FP hr (by rfl) pass0 (pa_cons (pv 0) (pa_cons (pe_lst (pa_cons pe_str (pa_cons pe_str pa_nil))) pa_nil))) (pa_cons (pe_fn FD hr1 (by rfl) pass0 (pa_cons (pv 0) (pa_cons (xe_len (K := K) m2 (pv 1)) pa_nil))) pa_nil)) (by rfl))
      (pss_cons (ps_set (i := 7) scNear.nd rfl (.inl rfl) (pe_fn FD hr1 (by rfl) pass0 (pa_cons (pv 0) (pa_cons (pe_op op_add (pe_fn FO hr1 (by rfl) pass0 (pa_cons (pv 1) (pa_cons (pv 6) pa_nil))) pe_int) pa_nil))))
      (pss_cons (ps_set (i := 8) scNear.nd rfl (.inl rfl) (pe_fn FP hr (by rfl) pass0 (pa_cons (pv 0) (pa_cons (pe_lst (pa_cons (pe_tup (pa_cons pe_str (pa_cons pe_int pa_nil))) (pa_cons (pe_tup (pa_cons pe_str (pa_cons pe_int pa_nil))) (pa_cons (pe_tup (pa_cons pe_str (pa_cons pe_int pa_nil))) (pa_cons (pe_tup (pa_cons pe_str (pa_cons pe_int pa_nil))) (pa_cons (pe_tup (pa_cons pe_str (pa_cons pe_int pa_nil))) (pa_cons (pe_tup (pa_cons pe_str (pa_cons pe_int pa_nil))) pa_nil))))))) pa_nil))))
      (pss_one (xs_append (pv 3) (pe_tup (pa_cons (pv 5) (pa_cons (pv 6) (pa_cons (pv 7) (pa_cons (pe_ifExp (pt_cmpR op_eq (pv 5) pe_str (nomark _)) (pv 8) (pe_fn FD hr1 (by rfl) pass0 (pa_cons (pv 0) (pa_cons (pe_op op_add (pe_fn FO hr1 (by rfl) pass0 (pa_cons (pv 1) (pa_cons (pv 6) pa_nil))) pe_int) pa_nil)))) pa_nil)))))))))))
    (pss_cons (ps_for PassesOwn.never rfl (xi_list (K := K) (xe_slTo (K := K) (pe_fn FX hr (by rfl) pass0 (pa_cons (pv 0) (pa_cons (pv 2) pa_nil))) pe_int)) (pg_name (i := 9) scNear.nd rfl (.inl rfl))
      (pss_one (xs_extend (pv 3) (pe_lst (pa_cons (pv 9) (pa_cons (xe_list (K := K) m3 (pv 9)) (pa_cons (pe_op op_catT (pv 9) (pe_tup (pa_cons pe_int pa_nil))) (pa_cons (pe_op op_catT (xe_slToT (K := K) (pv 9) pe_int) (pe_tup (pa_cons pe_non pa_nil)))
        (pa_cons (pe_op op_catT (pe_op op_catT (xe_slToT (K := K) (pv 9) pe_int) (pe_tup (pa_cons pe_bl pa_nil))) (xe_slFromT (K := K) (pv 9) pe_int)) (pa_cons (pe_op op_catT (pe_op op_catT (xe_slToT (K := K) (pv 9) pe_int) (pe_tup (pa_cons pe_str pa_nil))) (xe_slFromT (K := K) (pv 9) pe_int)) pa_nil))))))))))
    (pss_one (ps_ret (pv 3))))))), ?_⟩
  have T : ∀ {ds : List PyData} {t : TA} {σ : L2.St} {G : Hp}, PRA t σ G ds → ds.length ≤ 100 → PR (tTup t) σ G (.tuple ds) := fun h hz => PR_tup h (by omega)
  have L : ∀ {ds : List PyData} {t : TA} {σ : L2.St} {G : Hp}, PRA t σ G ds → ds.length ≤ 100 → PR (tLst t) σ G (.list ds) := fun h hz => PR_lst h (by omega)
  have dic : ∀ {σ : L2.St} {G : Hp}, PR tDNewK σ G (.dict []) := fun H Q hs k p hp => k (.ref p) _ _ (.new hs hp) (.dict upd_same)
  have lay : ∀ {σ : L2.St} {G : Hp} {x : Str} {i : Int}, PR (tTup (tCons (tC (.str x)) (tCons (tC (.int i)) tNil))) σ G (.tuple [.str x, .int i]) := T (PRA_two PR_str PR_int) (by simp)
  -- _law_found
  refine tAsgLst_use (ds := near0) hG (PRA_cons PR_non (PRA_cons PR_int (PRA_cons PR_str (PRA_cons (L PRA_nil (by simp)) (PRA_cons (T PRA_nil (by simp)) (PRA_cons dic (PRA_cons (T (PRA_one PR_str) (by simp)) (PRA_cons (T (PRA_cons PR_str (PRA_two PR_int PR_int)) (by simp)) (PRA_cons (T (PRA_cons PR_str (PRA_cons PR_int (PRA_two PR_int lay))) (by simp)) (PRA_one (T (PRA_cons PR_str (PRA_cons PR_int (PRA_two PR_int PR_int))) (by simp)))))))))))) (by show 10 ≤ sizeLine; omega) fun vs0 G1 H1 p e1 dv0 hp => ?_
  obtain ⟨g1, w1⟩ := (GrW.start hG hcl).pure hw hw e1
  have g2 := g1.new (xs := vs0) hw hp
  have w2 := w1.up (same_new (o := .lst vs0) hp)
  have dv0' : DqAll (joinG G G1) vs0 near0 := joinG_all e1.gg dv0
  have d1' := d1.up (joinG_same (G := G) (G' := G1))
  have d2' := d2.up (joinG_same (G := G) (G' := G1))
  have h2 : upd H1 p (.lst vs0) p = some (.lst vs0) := upd_same
  generalize joinG G G1 = G2 at g2 dv0' d1' d2'
  generalize upd H1 p (.lst vs0) = H2 at g2 w2 h2
  have mp : p ∈ [p] := List.mem_cons_self ..
  have l0 := dv0'.len
  have l0 : vs0.length = 10 := l0
  refine put_extendW (ds := near1 ss.length) g2 hw w2 mp rfl h2 (L (PRA_cons (T (PRA_cons PR_str (PRA_cons (lenSS (PV (i := 1) d1')) (PRA_two PR_int lay))) (by simp)) (PRA_cons (T (PRA_cons PR_str (PRA_cons (PR_neg PR_int) (PRA_two PR_int lay))) (by simp)) (PRA_two (T (PRA_cons PR_str (PRA_cons PR_int (PRA_two PR_int lay))) (by simp)) (T (PRA_cons PR_str (PRA_cons PR_int (PRA_two PR_int lay))) (by simp))))) (by show 4 ≤ 100; decide)) (by show vs0.length + 4 ≤ sizeLine; omega) fun vs1 G3 H3 g3 w3 s3 dv1 h3 _ => ?_
  have l1 := dv1.len
  have l1 : vs1.length = 4 := l1
  refine put_extendW (ds := near2) g3 hw w3 mp rfl h3 (L (PRA_cons (T (PRA_cons PR_str (PRA_cons PR_int (PRA_two PR_int (T (PRA_two PR_str PR_str) (by simp))))) (by simp)) (PRA_cons (T (PRA_cons PR_str (PRA_cons PR_bl (PRA_two PR_int lay))) (by simp)) (PRA_two (T (PRA_cons PR_str (PRA_cons PR_int (PRA_two PR_int PR_non))) (by simp)) (T (PRA_cons (L (PRA_one PR_str) (by simp)) (PRA_cons PR_int (PRA_two PR_int lay))) (by simp))))) (by show 4 ≤ 100; decide)) (by show (vs0 ++ vs1).length + 4 ≤ sizeLine; rw [List.length_append]; omega) fun vs2 G4 H4 g4 w4 s4 dv2 h4 _ => ?_
  have dv4 : DqAll G4 ((vs0 ++ vs1) ++ vs2) ((near0 ++ near1 ss.length) ++ near2) := (((dv0'.up s3).app dv1).up s4).app dv2
  have ok4 : ∀ x ∈ (near0 ++ near1 ss.length) ++ near2, NearD x := fun x hx => by
    rcases List.mem_append.mp hx with hx | hx
    · rcases List.mem_append.mp hx with hx | hx
      · exact near0_ok x hx
      · exact near1_ok _ x hx
    · exact near2_ok x hx
  have ln4 : ((near0 ++ near1 ss.length) ++ near2).length = 18 := rfl
  generalize (near0 ++ near1 ss.length) ++ near2 = xs4 at dv4 ok4 ln4
  generalize (vs0 ++ vs1) ++ vs2 = acc4 at dv4 h4
  have d1_4 := (d1'.up s3).up s4
  have d2_4 := (d2'.up s3).up s4
  have roomS3 : ∀ j, j < ss.length → roomS ss j ≤ 3 := fun j hj => by
    have h1 := (hf3 _ (stp_mem hj)).2
    unfold roomS
    split <;> omega
  -- fourteen turns
  refine ⟨14, rfl, by decide, by decide, ?_⟩
  refine for_range (lo := 0) (n := 14) (fun i σ H' => ∃ (G' : Hp) (acc : List V) (xs : List PyData) (x4 x5 x6 x7 x8 : Option V), σ = [some (.ref W.st), some u1, some u2, some (.ref p), x4, x5, x6, x7, x8, none] ∧ GrW W G H [p] G' H' ∧ WOk W (n + 5 * i) H' ∧ Same G4 G' ∧ H' p = some (.lst acc) ∧ DqAll G' acc xs ∧ xs.length = 18 + i ∧ ∀ x ∈ xs, NearD x) ?_ ?_ ?_
  · exact ⟨G4, acc4, xs4, none, none, none, none, none, rfl, g4, by simpa using w4, Same.refl _, h4, dv4, by simpa using ln4, ok4⟩
  · rintro i σ H5 hi ⟨G5, acc, xs, x4, x5, x6, x7, x8, rfl, g5, w5, s5, h5, dv5, ln5, ok5⟩
    have d1_5 := d1_4.up s5
    refine PN_pick (xs := [.str "add", .str "shift"]) rfl (L (PRA_two PR_str PR_str) (by simp)) (by simp) (by simp) H5 _ _ g5.x.gh g5.x.cl w5 (by omega) fun d v5 G6 H6 hd xa w6 d5 => ?_
    have hd' : ∃ x : Str, d = .str x ∧ PyData.strOk x = true := by
      simp only [List.mem_cons, List.not_mem_nil, or_false] at hd
      rcases hd with rfl | rfl
      · exact ⟨_, rfl, okAdd⟩
      · exact ⟨_, rfl, okShift⟩
    obtain ⟨sx, rfl, hsx⟩ := hd'
    have g6 := g5.ext hw xa
    have h6 := grw_keep g5 hw xa mp h5
    have d1_6 := d1_5.up xa.gg
    refine PN_draw (m := ss.length) rfl (lenSS (PV (i := 1) d1_6)) (List.length_pos_iff.mpr hne) (by omega) H6 _ _ xa.gh xa.cl w6 (by omega) fun d v6 G7 H7 ⟨j, e, hj⟩ xb w7 d6 => ⟨_, _, rfl, ?_⟩
    subst e
    cases d6
    have g7 := g6.ext hw xb
    have h7 := grw_keep g6 hw xb mp h6
    have d1_7 := d1_6.up xb.gg
    have hrj := roomS3 j hj
    have rm : ∀ {σ : L2.St} {G' : Hp}, Same G7 G' → σ[1]? = some (some u1) → σ[6]? = some (some (.int j)) → PR (tOp (rI0 fun i j => .int (i + j)) (tCall (spP DRoom) [] E0 (tCons (tVar 1) (tCons (tVar 6) tNil))) (tC (.int 2))) σ G' (.int ((roomS ss j + 2 : Nat) : Int)) := fun g h1 h6 => (PR_op RR2_addI (PR_call (PRA_two (PR_var h1 (d1_7.up g)) (PR_var h6 (.int _))) ⟨ss, j, rfl, rfl, hj⟩) PR_int).eq (by congr 1)
    refine tSetN_use (c := 1) xb.gh xb.cl w7 (by omega) (PN_draw (m := roomS ss j + 2) rfl (rm (Same.refl _) rfl rfl) (by omega) (by omega)) fun d v7 G8 H8 ⟨q, e, hq⟩ xc w8 d7 => ?_
    subst e
    have g8 := g7.ext hw xc
    have h8 := grw_keep g7 hw xc mp h7
    refine tSetN_use (c := 1) xc.gh xc.cl w8 (by omega) (PN_pick (xs := [encL (.ci, 0), encL (.ci, 1), encL (.se, 0), encL (.se, 1), encL (.la, 1), encL (.wo, 3)]) rfl (L (PRA_cons lay (PRA_cons lay (PRA_cons lay (PRA_cons lay (PRA_two lay lay))))) (by simp)) (by simp) (by simp)) fun d v8 G9 H9 hd8 xd w9 d8 => ?_
    have hd8' : nearB 2 d = true ∧ isL d = false := by
      simp only [List.mem_cons, List.not_mem_nil, or_false] at hd8
      rcases hd8 with rfl | rfl | rfl | rfl | rfl | rfl <;> exact ⟨by decide +kernel, rfl⟩
    have g9 := g8.ext hw xd
    have h9 := grw_keep g8 hw xd mp h8
    have s59 : Same G6 G9 := (xb.gg.trans xc.gg).trans xd.gg
    have d5_9 := d5.up s59
    have d7_9 := d7.up xd.gg
    have al := dv5.len
    have key : PN W (tTup (tCons (tVar 5) (tCons (tVar 6) (tCons (tVar 7) (tCons (tIf (tTest (tOp rEq (tVar 5) (tC (.str "add")))) (tVar 8) (tCall (spS W.t (fun _ => 1) prDraw DDraw) [] E0 (tCons (tVar 0) (tCons (tOp (rI0 fun i j => .int (i + j)) (tCall (spP DRoom) [] E0 (tCons (tVar 1) (tCons (tVar 6) tNil))) (tC (.int 2))) tNil)))) tNil)))))
        [some (.ref W.st), some u1, some u2, some (.ref p), some (.int (0 + i)), some v5, some (.int j), some v7, some v8, none] G9 1 NearD := by
      refine PN.imp (PN_tup (c := 0 + (0 + (0 + (1 + 0)))) (PNA_cons (PN_of (PV (i := 5) d5_9)) (PNA_cons (PN_of (PV (i := 6) (.int (j : Int)))) (PNA_cons (PN_of (PV (i := 7) d7_9)) (PNA_cons (D := fun d => nearB 2 d = true ∧ isL d = false) (PN_if (TR_test (PR_op RR2_eqS (PV (i := 5) d5_9) PR_str)) (fun _ => (PN_of (PV (i := 8) d8)).imp (by omega) fun z e => by rw [e]; exact hd8') fun _ => (PN_draw (m := roomS ss j + 2) rfl (rm (xc.gg.trans xd.gg) rfl rfl) (by omega) (by omega)).imp (Nat.le_refl _) fun z ⟨r, e, _⟩ => by rw [e]; exact ⟨rfl, rfl⟩) PNA_nil)))) fun ds ⟨a, as, e1, e2, b, bs, e3, e4, c, cs, e5, e6, d, ds', e7, h, e8⟩ => ?_) (by omega) fun _ h => h
      subst e1 e2 e3 e4 e5 e6 e7 e8
      exact ⟨by show 4 ≤ sizeLine; omega, .inl (by simp [nearB, leafB, h.1, hsx]), h.2⟩
    refine put_appN g9 hw w9 mp rfl h9 key (by omega) (by omega) fun d v10 G10 H10 hN g10 w10 s10 dv10 h10 _ => ?_
    refine ⟨G10, acc ++ [v10], xs ++ [d], _, _, _, _, _, rfl, g10, w10.mono (by omega), (((s5.trans xa.gg).trans s59)).trans s10, h10, (dv5.up ((xa.gg.trans s59).trans s10)).snoc dv10, by simp; omega, fun x hx => ?_⟩
    rcases List.mem_append.mp hx with h | h
    · exact ok5 x h
    · rw [List.mem_singleton.mp h]; exact hN
  · rintro σ H5 ⟨G5, acc, xs, x4, x5, x6, x7, x8, rfl, g5, w5, s5, h5, dv5, ln5, ok5⟩
    have d2_5 := d2_4.up s5
    -- mends
    have key : PN W (tSl (rSlL K) (tCall (spS W.t lenD prMixed DMixed) [] E0 (tCons (tVar 0) (tCons (tVar 2) tNil))) tNoPart (tPart (tC (.int 4)))) [some (.ref W.st), some u1, some u2, some (.ref p), x4, x5, x6, x7, x8, none] G5 ((0 + 500) + 0) (fun d => ∃ ls : List Mnd, d = .list (ls.map encM) ∧ ls.length ≤ 4) := by
      refine PN_slTo (D1 := fun d => ∃ ls : List Mnd, ls.Perm ms ∧ d = .list (ls.map encM)) (D2 := (· = .int 4)) ?_ (PN_of PR_int) fun a b ha hb => ?_
      · refine PN_callS rfl (PNA_of (PRA_one (PV (i := 2) d2_5))) fun ds e => ?_
        subst e
        refine ⟨⟨_, rfl, by simp; omega⟩, by simpa [lenD] using hml, fun d ⟨xs, ys, e1, e2, hp⟩ => ?_⟩
        cases e1
        obtain ⟨ls, h1, h2⟩ := perm_map hp rfl
        exact ⟨ls, h1, by rw [e2, h2]⟩
      · obtain ⟨ls, hp, rfl⟩ := ha
        exact ⟨_, 4, rfl, hb, ls.take 4, by rw [List.map_take], by rw [List.length_take]; omega⟩
    refine tForN_use g5.x.gh g5.x.cl w5 (by omega) (WN_list (DL := fun ds => ∃ ls : List Mnd, ds = ls.map encM ∧ ls.length ≤ 4) key fun d ⟨ls, e, h⟩ => ⟨_, e, ls, rfl, h⟩) fun ds J G6 H6 ⟨ls, e, hls⟩ x6' w6 dw => ?_
    subst e
    have g6 := g5.ext hw x6'
    refine for_nm dw (fun j σ H' => ∃ (G' : Hp) (acc : List V) (xs : List PyData) (x9 : Option V), σ = [some (.ref W.st), some u1, some u2, some (.ref p), x4, x5, x6, x7, x8, x9] ∧ GrW W G H [p] G' H' ∧ WOk W (n + 5 * 14 + 500 + 0) H' ∧ Same G6 G' ∧ H' p = some (.lst acc) ∧ DqAll G' acc xs ∧ xs.length = 32 + 6 * j ∧ ∀ x ∈ xs, NearD x) ?_ ?_ ?_ ?_
    · exact ⟨G6, acc, xs, none, rfl, g6, w6.mono (by omega), Same.refl _, grw_keep g5 hw x6' mp h5, dv5.up x6'.gg, by omega, ok5⟩
    · rintro j σ H' hj ⟨G', acc, xs, x9, _, g, _, s, _⟩
      exact s.trans g.x.gh
    · rintro j d y σ H7 H7' hd ⟨G7, acc, xs, x9, rfl, g7, w7, s7, h7, dv7, ln7, ok7⟩ e7 yy
      obtain ⟨m, hm1, rfl⟩ := get_map hd
      have hj4 : j < 4 := by have := (List.getElem?_eq_some_iff.mp hm1).1; omega
      obtain ⟨G8, g8, w8, s8, dy⟩ := g7.yld hw w7 s7 yy
      obtain ⟨mw, mi, mq, mx, em, hmx, hmw, hml⟩ := mend_parts m
      rw [em] at dy
      have al := dv7.len
      have v9 : PR (tVar 9) [some (.ref W.st), some u1, some u2, some (.ref p), x4, x5, x6, x7, x8, some y] G8 (.tuple [.str mw, .int mi, .int mq, mx]) := PV dy
      refine put_extendW (ds := [.tuple [.str mw, .int mi, .int mq, mx], .list [.str mw, .int mi, .int mq, mx], .tuple [.str mw, .int mi, .int mq, mx, .int 0], .tuple [.str mw, .int mi, .int mq, .none], .tuple [.str mw, .int mi, .bool true, mx], .tuple [.str mw, .str "0", .int mq, mx]]) g8 hw w8 mp rfl (e7 _ _ h7)
        (L (PRA_cons v9 (PRA_cons (PR_list1 v9 (.inr rfl)) (PRA_cons (PR_op (RR2_catT (by simp) (by simp) (by simp; omega)) v9 (T (PRA_one PR_int) (by simp))) (PRA_cons (PR_op (RR2_catT (by simp) (by simp) (by simp; omega)) (PR_slToT (n := 3) v9 PR_int) (T (PRA_one PR_non) (by simp)))
          (PRA_two (PR_op (RR2_catT (by simp) (by simp) (by simp; omega)) (PR_op (RR2_catT (by simp) (by simp) (by simp; omega)) (PR_slToT (n := 2) v9 PR_int) (T (PRA_one PR_bl) (by simp))) (PR_slFromT (n := 3) v9 PR_int)) (PR_op (RR2_catT (by simp) (by simp) (by simp; omega)) (PR_op (RR2_catT (by simp) (by simp) (by simp; omega)) (PR_slToT (n := 1) v9 PR_int) (T (PRA_one PR_str) (by simp))) (PR_slFromT (n := 2) v9 PR_int))))))) (by simp)) (by simp; omega) fun vs9 G9 H9 g9 w9 s9 dv9 h9 _ => ?_
      refine ⟨G9, acc ++ vs9, _, some y, rfl, g9, w9, (s7.trans s8).trans s9, h9, ((dv7.up s8).up s9).app dv9, by simp; omega, fun x hx => ?_⟩
      rcases List.mem_append.mp hx with h | h
      · exact ok7 x h
      · simp only [List.mem_cons, List.not_mem_nil, or_false] at h
        rcases h with rfl | rfl | rfl | rfl | rfl | rfl <;> exact ⟨.inl (by simp [nearB, leafB, hmx, hmw, okZero]), by first | exact hml | rfl⟩
    · rintro σ H7 ⟨G7, acc, xs, x9, rfl, g7, w7, s7, h7, dv7, ln7, ok7⟩
      obtain ⟨g8, s8⟩ := g7.freeze hw h7
      rw [List.length_map] at ln7
      exact ⟨_, rfl, kq (.list xs) _ _ _ ⟨xs, rfl, ok7, by omega⟩ g8.x (w7.mono (by show _ ≤ n + 1000; omega)) (.lst upd_same (dv7.up s8))⟩
end
end K50
set_option Elab.async false
set_option linter.all false
set_option maxRecDepth 100000
set_option maxHeartbeats 4000000
/-! PdRepr: repr of lists and tuples within one another, whatever stands on the stack: the text depends on which addresses are under way there -/
namespace PD
open PySem PySem.Spec PyProof.Rows L2 PySem.Builtin PySem.Builtin.List
open Sem (wp)
/-- repr of the list self is under way -/
def lstP (self : Value) : Code × Pos → Bool := fun
  | (.builtin "list.__repr__.loop" ⟨v :: _, _⟩, _) => listSameRef v self
  | _ => false
theorem lstP_pos (self : Value) (c : Code) (p : Pos) : lstP self (c, p) = lstP self (c, default) := by
  unfold lstP
  split
  · rename_i h; cases h; rfl
  · rename_i h
    split
    · rename_i h2; cases h2; exact absurd rfl (h _ _ _ _)
    · rfl
theorem lstP_off (self : Value) (c : Code) (p : Pos) (h : c.isGuard = false) : lstP self (c, p) = false := by
  unfold lstP
  split
  · rename_i v r k q e
    cases e
    have z : (Code.builtin "list.__repr__.loop" ⟨v :: r, k⟩).isGuard = true := isGuard_list_loop _
    rw [z] at h; cases h
  · rfl
def lkL (g : List Code) (a : Addr) : Bool := g.any fun c => lstP (.ref a) (c, default)
def lkT (g : List Code) (a : Addr) : Bool := g.any fun c => tupGuardF (.ref a) (c, default)
theorem list_tree (n : Nat) (v : Value) : listReprAt n ⟨[v], []⟩ = (do
    let xs ← listItems v
    if xs.isEmpty then (do rule "list.__repr__.empty"; retStr "[]") else (do
      let r ← (do return (← stack).tail.any (lstP v) : Sem Bool)
      if r then (do rule "list.__repr__.in-itself"; retStr "[...]") else (do
        let q ← newList []
        again (.builtin "list.__repr__.loop" ⟨[v, rawInt 0, q, rawInt n], []⟩)))) := rfl
/-- under any guards that are ok: x is told as t -/
def RepIn (P : Program) (w : World) (h₀ : Heap) (d : Nat) (ok : List Code → Prop) (x : Value) (t : Str) : Prop :=
  ∀ (n : Nat) (A : Around) (g : List Code) (E : Value → Shared → Prop) (s : Shared) (Q : Str → Shared → Prop), n + t.length ≤ sizeLine → A.guards = some g → ok g → A.units + d < cLine → (∀ b o, h₀.get? b = some o → s.heap.get? b = some o) →
    (∀ h' k, (∀ b o, s.heap.get? b = some o → h'.get? b = some o) → Q t { s with heap := h', toks := k }) → wpAny (model P w) A (pyReprUnder n x) Q E s
inductive RepAll (P : Program) (w : World) (h₀ : Heap) (d : Nat) (ok : List Code → Prop) : List Value → List Str → Prop
  | nil : RepAll P w h₀ d ok [] []
  | cons {x : Value} {t : Str} {xs : List Value} {ts : List Str} : RepIn P w h₀ d ok x t → RepAll P w h₀ d ok xs ts → RepAll P w h₀ d ok (x :: xs) (t :: ts)
section
variable {P : Program} {w : World} {h₀ : Heap} {d : Nat} {ok : List Code → Prop}
theorem RepIn.leaf {x : Value} {t : Str} (h : ReprIs P w x t) : RepIn P w h₀ d ok x t := fun n A g E s Q hz _ _ _ _ hQ => h n hz A E s Q fun k => hQ s.heap k fun _ _ e => e
theorem RepIn.mono {d' : Nat} {ok' : List Code → Prop} {x : Value} {t : Str} (h : RepIn P w h₀ d ok x t) (hd : d ≤ d') (ho : ∀ g, ok' g → ok g) : RepIn P w h₀ d' ok' x t :=
  fun n A g E s Q hz hg hk hu hh hQ => h n A g E s Q hz hg (ho g hk) (by omega) hh hQ
theorem RepAll.mono {d' : Nat} {ok' : List Code → Prop} (hd : d ≤ d') (ho : ∀ g, ok' g → ok g) : ∀ {xs : List Value} {ts : List Str}, RepAll P w h₀ d ok xs ts → RepAll P w h₀ d' ok' xs ts
  | _, _, .nil => .nil
  | _, _, .cons h t => .cons (h.mono hd ho) (t.mono hd ho)
theorem RepAll.len : ∀ {xs : List Value} {ts : List Str}, RepAll P w h₀ d ok xs ts → ts.length = xs.length
  | _, _, .nil => rfl
  | _, _, .cons _ t => by simp [t.len]
/-! ### the loop over a list's items -/
section
variable {A : Around} {R : Result → Shared → Prop}
theorem list_turns {a p : Addr} (hap : a ≠ p) {vs : Array Value} {ts : List Str} {g : List Code} {n : Nat} (hg : A.guards = some g) (hok : ∀ r, ok (.builtin "list.__repr__.loop" ⟨.ref a :: r, []⟩ :: g)) (hu : A.units + (d + 1) < cLine) (hp0 : h₀.get? p = none) (hz : n + (listText ts).length ≤ sizeLine) :
    ∀ (post : List Value) (us : List Str), RepAll P w h₀ d ok post us → ∀ (pre : List Value) (told : List (Str × Tok)) (s : Shared) (oa : Obj) (na c : Nat), vs.toList = pre ++ post → told.length = pre.length → ts = told.map (·.1) ++ us →
      (∀ b o, h₀.get? b = some o → s.heap.get? b = some o) → s.heap.get? a = some oa → oa.data = .seq vs na → s.heap.get? p = some { cls := .type "list", dict := none, data := .seq (strValues told).toArray c, slots := #[] } →
      (∀ h' u k, (∀ b o, b ≠ p → s.heap.get? b = some o → h'.get? b = some o) → R (.ok (.ret (.str (listText ts) u))) { s with heap := h', toks := k }) →
      codeAny (model P w) A (.builtin "list.__repr__.loop" ⟨[.ref a, rawInt pre.length, .ref p, rawInt ((n + piled (told.map (·.1)) : Nat) : Int)], []⟩) R s := by
  have zt : (listText ts).length = (textFrom 0 "[" ts).length + 1 := (strLen_append _ _).trans rfl
  have zl := textFrom_len ts 0 "["
  have zp := piled_le_listText ts
  intro post us hr
  induction hr with
  | nil =>
    intro pre told s oa na c e1 e2 e3 hh h1 h2 h3 hR
    rw [List.append_nil] at e1 e3
    refine codeAny_builtin F.entry_list_repr_loop ?_
    show wpAny _ _ (Builtin.«list.__repr__.loop» ⟨[.ref a, .int (pre.length : Nat) 0, .ref p, .int ((n + piled (told.map (·.1)) : Nat) : Int) 0], []⟩) _ _ s
    rw [repr_loop_tree]
    refine wpAny_bind (wpAny_listItems h1 h2 ?_)
    have no : vs[((pre.length : Nat) : Int).toNat]? = none := by
      rw [Int.toNat_natCast, ← Array.getElem?_toList, e1]; simp
    simp only [no]
    unfold reprEnd
    refine wpAny_bind (wpAny_listItems h3 rfl ?_)
    rw [repr_fold, ← e3]
    exact wpAny_bind (wpAny_pure (wpAny_bind (wpAny_mkStr (wpAny_pure (hR s.heap _ _ fun _ _ _ e => e)) (show (listText ts).length ≤ sizeLine by omega))))
  | @cons x t xs us hx hxs ih =>
    intro pre told s oa na c e1 e2 e3 hh h1 h2 h3 hR
    have tl : t.length ≤ sizeLine := by
      have := zl.2.1 t (by rw [e3]; simp)
      omega
    have pz : piled (told.map (·.1)) + (t.length + 2) ≤ piled ts := by
      rw [e3, piled_append, piled_cons]; omega
    refine codeAny_builtin F.entry_list_repr_loop ?_
    show wpAny _ _ (Builtin.«list.__repr__.loop» ⟨[.ref a, .int (pre.length : Nat) 0, .ref p, .int ((n + piled (told.map (·.1)) : Nat) : Int) 0], []⟩) _ _ s
    rw [repr_loop_tree]
    refine wpAny_bind (wpAny_listItems h1 h2 ?_)
    have yes : vs[((pre.length : Nat) : Int).toNat]? = some x := by
      rw [Int.toNat_natCast, ← Array.getElem?_toList, e1]; simp
    simp only [yes]
    rw [Int.toNat_natCast]
    refine wpAny_bind (wpAny_holding (hx _ _ _ _ _ _ (by omega) (guards_under_guard (isGuard_list_loop _) hg) (hok _) (by rw [units_under_list_loop]; omega) hh fun h' k keep => ?_))
    refine wpAny_bind (wpAny_mkStr (wpAny_bind ?_) tl)
    show wpAny _ _ (updateSeq p _) _ _ _
    have sz : (strValues told).toArray.size ≤ sizeLine := by
      have q1 : (strValues told).toArray.size = told.length := by simp [strValues]
      have q2 := zl.1
      rw [if_neg (Nat.lt_irrefl 0)] at q2
      have q3 : ts.length = told.length + (us.length + 1) := by rw [e3]; simp
      omega
    refine wpAny_updateSeq (keep _ _ h3) rfl (wpAny_pure ⟨F.quiet_list_repr_loop _, ?_⟩) sz
    have j1 : ((pre.length : Nat) : Int) + 1 = (((pre ++ [x]).length : Nat) : Int) := by simp
    have j2 : n + piled (told.map (·.1)) + (t.length + 2) = n + piled ((told ++ [(t, k)]).map (·.1)) := by
      rw [List.map_append, piled_append]; simp [piled]; omega
    rw [j1, j2]
    refine ih (pre ++ [x]) (told ++ [(t, k)]) _ oa na (if ((strValues told).toArray.push (.str t k)).size == (strValues told).toArray.size then c else c + 1) (by rw [e1]; simp) (by simp [e2]) (by rw [e3]; simp) (fun b o q => ?_) ?_ h2 ?_ fun h2' u k2 q => ?_
    · exact (Heap.get?_update_other _ _ (fun z : p = b => by rw [← z, hp0] at q; cases q)).trans (keep _ _ (hh _ _ q))
    · exact (Heap.get?_update_other _ _ (fun z : p = a => hap z.symm)).trans (keep _ _ h1)
    · rw [Heap.get?_update_self _ (keep _ _ h3) rfl]
      have ev : (strValues (told ++ [(t, k)])).toArray = (strValues told).toArray.push (.str t k) := by simp [strValues]
      rw [ev]
      rfl
    · exact hR h2' u k2 fun b o nb e => q b o nb ((Heap.get?_update_other _ _ (fun z : p = b => nb z.symm)).trans (keep _ _ e))
/-- the list at a, as listReprAt does it -/
theorem list_body {a : Addr} {oa : Obj} {vs : Array Value} {na n : Nat} {ts : List Str} {g : List Code} {s : Shared} {c : Code} (hg : A.guards = some g) (h1 : h₀.get? a = some oa) (h2 : oa.data = .seq vs na) (hok : lkL g a = false → ∀ r, ok (.builtin "list.__repr__.loop" ⟨.ref a :: r, []⟩ :: g)) (hu : A.units + (d + 1) < cLine)
    (hT : RepAll P w h₀ d ok vs.toList ts) (hh : ∀ b o, h₀.get? b = some o → s.heap.get? b = some o) (hz : vs.isEmpty = false → lkL g a = false → n + (listText ts).length ≤ sizeLine)
    (hR : ∀ h' u k, (∀ b o, s.heap.get? b = some o → h'.get? b = some o) → R (.ok (.ret (.str (if vs.isEmpty then "[]" else if lkL g a then "[...]" else listText ts) u))) { s with heap := h', toks := k }) :
    wpOwn (model P w) A c (listReprAt n ⟨[.ref a], []⟩) (fun fin s' => match fin with | .done f => R (.ok f) s' | .again c' => c'.quiet = true ∧ codeAny (model P w) A c' R s') (fun e s' => R (.error e) s') s := by
  rw [list_tree]
  refine wpOwn_bind (wpOwn_of_wpAny (wpAny_listItems (hh _ _ h1) h2 ?_))
  cases he : vs.isEmpty with
  | true =>
    rw [he] at hR
    exact wpOwn_of_wpAny (wpAny_bind (wpAny_rule (wpAny_bind (wpAny_mkStr (wpAny_pure (hR s.heap _ _ fun _ _ e => e)) (by decide)))))
  | false =>
    rw [he] at hR
    refine wpOwn_bind (wpOwn_stackTailAny hg (lstP_off _) (lstP_pos _) ?_)
    show wpOwn _ _ _ (if lkL g a = true then _ else _) _ _ _
    cases hl : lkL g a with
    | true =>
      rw [hl] at hR
      exact wpOwn_of_wpAny (wpAny_bind (wpAny_rule (wpAny_bind (wpAny_mkStr (wpAny_pure (hR s.heap _ _ fun _ _ e => e)) (by decide)))))
    | false =>
      rw [hl] at hR
      refine wpOwn_of_wpAny (wpAny_bind (m := newList []) (wpAny_newObj_type (wpAny_pure ⟨F.quiet_list_repr_loop _, ?_⟩)))
      have np : h₀.get? s.heap.objs.size = none := by
        cases e : h₀.get? s.heap.objs.size with
        | none => rfl
        | some o => exact absurd (Heap.lt_size (hh _ _ e)) (Nat.lt_irrefl _)
      refine list_turns (ts := ts) (Nat.ne_of_lt (Heap.lt_size (hh _ _ h1))) hg (hok hl) hu np (hz he hl) vs.toList ts hT [] [] _ oa na _ rfl rfl rfl (fun b o e => Heap.get?_push_of_some _ (hh _ _ e)) (Heap.get?_push_of_some _ (hh _ _ h1)) h2 (Heap.get?_push_size _ rfl) fun h' u k q => ?_
      exact hR h' u k fun b o e => q b o (Nat.ne_of_lt (Heap.lt_size e)) (Heap.get?_push_of_some _ e)
/-! ### tuples -/
theorem tup_turns {g : List Code} {E : Value → Shared → Prop} (hg : A.guards = some g) (hk : ok g) (hu : A.units + d < cLine) : ∀ {xs : List Value} {ts : List Str}, RepAll P w h₀ d ok xs ts → ∀ (acc : Array Str) (n : Nat) (s : Shared) (Q : (Array Str × Nat) → Shared → Prop), n + piled ts ≤ sizeLine → (∀ b o, h₀.get? b = some o → s.heap.get? b = some o) →
    (∀ h' k, (∀ b o, s.heap.get? b = some o → h'.get? b = some o) → Q (acc ++ ts.toArray, n + piled ts) { s with heap := h', toks := k }) → wpAny (model P w) A (forIn xs ((acc, n) : Array Str × Nat) tupBody) Q E s
  | _, _, .nil, acc, n, s, Q, _, _, hQ => by
    rw [List.forIn_nil]
    exact wpAny_pure (by simpa [piled] using hQ s.heap s.toks fun _ _ e => e)
  | _, _, .cons (x := x) (t := t) (xs := xs) (ts := ts) hx hxs, acc, n, s, Q, hz, hh, hQ => by
    rw [piled_cons] at hz
    rw [List.forIn_cons]
    refine wpAny_bind (wpAny_bind (hx (n + 1) A g E s _ (by omega) hg hk hu hh fun h' k keep => wpAny_pure ?_))
    refine tup_turns hg hk hu hxs (acc.push t) (n + (t.length + 2)) _ Q (by omega) (fun b o e => keep _ _ (hh _ _ e)) fun h2 k2 keep2 => ?_
    have q := hQ h2 k2 fun b o e => keep2 _ _ (keep _ _ e)
    rw [show n + piled (t :: ts) = n + (t.length + 2) + piled ts by rw [piled_cons]; omega] at q
    simpa using q
theorem tup_body {a : Addr} {oa : Obj} {vs : Array Value} {na n : Nat} {ts : List Str} {g : List Code} {s : Shared} {id : String} {rest : List Value} (hcg : (Code.builtin id ⟨.ref a :: rest, []⟩).isGuard = true) (hcu : (A.under (.builtin id ⟨.ref a :: rest, []⟩)).units = A.units + 1)
    (hg : A.guards = some g) (h1 : h₀.get? a = some oa) (h2 : oa.data = .seq vs na) (hok : lkT g a = false → ok (.builtin id ⟨.ref a :: rest, []⟩ :: g)) (hu : A.units + (d + 1) < cLine)
    (hT : RepAll P w h₀ d ok vs.toList ts) (hh : ∀ b o, h₀.get? b = some o → s.heap.get? b = some o) (hz : lkT g a = false → n + (tupleText ts).length ≤ sizeLine)
    (hR : ∀ h' u k, (∀ b o, s.heap.get? b = some o → h'.get? b = some o) → R (.ok (.ret (.str (if lkT g a then "(...)" else tupleText ts) u))) { s with heap := h', toks := k }) :
    wpOwn (model P w) A (.builtin id ⟨.ref a :: rest, []⟩) (Builtin.tupleReprAt n ⟨[.ref a], []⟩) (fun fin s' => match fin with | .done f => R (.ok f) s' | .again c' => c'.quiet = true ∧ codeAny (model P w) A c' R s') (fun e s' => R (.error e) s') s := by
  have zp := piled_le_tupleText ts
  have le : ts.length = vs.size := by simpa using hT.len
  rw [tuple_repr_tree, tupleReprUnderWay_eq]
  refine wpOwn_bind (wpOwn_stackTailAny hg (tupGuardF_off _) (tupGuardF_pos _) ?_)
  show wpOwn _ _ _ (if lkT g a = true then _ else _) _ _ _
  cases hl : lkT g a with
  | true =>
    rw [hl] at hR
    exact wpOwn_of_wpAny (wpAny_bind (wpAny_rule (wpAny_bind (wpAny_mkStr (wpAny_pure (hR s.heap _ _ fun _ _ e => e)) (by decide)))))
  | false =>
    rw [hl] at hR
    have hz := hz hl
    refine wpOwn_of_wpAny ?_
    show wpAny _ _ (tupleReprRest n (.ref a)) _ _ s
    unfold tupleReprRest Builtin.Tuple.tupleItemsOf
    refine wpAny_bind (wpAny_bind (wpAny_seqItems (hh _ _ h1) h2 (wpAny_pure ?_)))
    rw [← Array.forIn_toList]
    refine wpAny_bind (tup_turns (guards_under_guard hcg hg) (hok hl) (by rw [hcu]; omega) hT _ _ _ _ (by omega) hh fun h' k keep => ?_)
    have q := hR h' k (k + 1) keep
    refine wpAny_bind (wpAny_mkStr (wpAny_pure ?_) ?_)
    · simpa [tupleText, le] using q
    · have : (tupleText ts).length ≤ sizeLine := by omega
      simpa [tupleText, le] using this
end
/-! ### within, and at the top -/
section
variable {A : Around} {a : Addr} {oa : Obj} {vs : Array Value} {na : Nat} {ts : List Str} {ok0 : List Code → Prop} {β : Bool}
theorem repIn_list (h1 : h₀.get? a = some oa) (hc : oa.cls = .type "list") (h2 : oa.data = .seq vs na) (hβ : ∀ g, ok0 g → lkL g a = β) (hok : ∀ g, ok0 g → ∀ r, ok (.builtin "list.__repr__.loop" ⟨.ref a :: r, []⟩ :: g)) (hT : RepAll P w h₀ d ok vs.toList ts) :
    RepIn P w h₀ (d + 1) ok0 (.ref a) (if vs.isEmpty then "[]" else if β then "[...]" else listText ts) := fun n A g E s Q hz hg hk hu hh hQ => by
  have b := hβ g hk
  subst b
  refine wpAny_pyReprUnder_ref (by omega) (wpAny_pyReprObjUnder_twin (twin := "list.__repr__.under") ⟨oa, hh _ _ h1, hc⟩ F.slot_list_repr.toG rfl (by omega) ?_)
  refine call_twin_own (Code.quiet_builtin _ (by decide +kernel)) F.entry_list_repr_under F.check_list_repr_under ⟨oa, hh _ _ h1, hc⟩ F.slot_list_repr.toG (F.args_list_repr_1 _) ?_
  refine list_body (R := callEnd _ E) hg h1 h2 (fun _ => hok g hk) hu hT hh (fun e1 e2 => by rw [e1, e2] at hz; exact hz) fun h' u k keep => ?_
  exact ⟨⟨_, _, rfl⟩, _, _, rfl, hQ h' k keep⟩
theorem repIn_tup (h1 : h₀.get? a = some oa) (hc : oa.cls = .type "tuple") (h2 : oa.data = .seq vs na) (hβ : ∀ g, ok0 g → lkT g a = β) (hok : ∀ g, ok0 g → ∀ id r, ok (.builtin id ⟨.ref a :: r, []⟩ :: g)) (hT : RepAll P w h₀ d ok vs.toList ts) :
    RepIn P w h₀ (d + 1) ok0 (.ref a) (if β then "(...)" else tupleText ts) := fun n A g E s Q hz hg hk hu hh hQ => by
  have b := hβ g hk
  subst b
  refine wpAny_pyReprUnder_ref (by omega) (wpAny_pyReprObjUnder_twin (twin := "tuple.__repr__.under") ⟨oa, hh _ _ h1, hc⟩ F.slot_tuple_repr rfl (by omega) ?_)
  refine call_twin_own (F.quiet_tuple_repr_under _) F.entry_tuple_repr_under F.check_tuple_repr_under ⟨oa, hh _ _ h1, hc⟩ F.slot_tuple_repr (F.args_tuple_repr_1 _) ?_
  refine tup_body (R := callEnd _ E) (isGuard_tuple_repr_under _) (units_under_tuple_repr_under _ _) hg h1 h2 (fun _ => hok g hk _ _) hu hT hh (fun e1 => by rw [e1] at hz; exact hz) fun h' u k keep => ?_
  exact ⟨⟨_, _, rfl⟩, _, _, rfl, hQ h' k keep⟩
variable {g : List Code} {E : Value → Shared → Prop} {s : Shared} {Q : Value → Shared → Prop}
theorem call_list (hg : A.guards = some g) (h1 : h₀.get? a = some oa) (hc : oa.cls = .type "list") (h2 : oa.data = .seq vs na) (hok : ∀ r, ok (.builtin "list.__repr__.loop" ⟨.ref a :: r, []⟩ :: g)) (hu : A.units + (d + 1) < cLine) (hT : RepAll P w h₀ d ok vs.toList ts)
    (hh : ∀ b o, h₀.get? b = some o → s.heap.get? b = some o) (hz : (if vs.isEmpty then "[]" else if lkL g a then "[...]" else listText ts : Str).length ≤ sizeLine)
    (hQ : ∀ h' u k, (∀ b o, s.heap.get? b = some o → h'.get? b = some o) → Q (.str (if vs.isEmpty then "[]" else if lkL g a then "[...]" else listText ts) u) { s with heap := h', toks := k }) : wpAny (model P w) A (call (.builtin "list.__repr__") [.ref a]) Q E s :=
  wpAny_call (codeAny_call_builtin_own (Code.quiet_builtin _ (by decide +kernel)) F.entry_list_repr (F.slot_list_repr.toG.check _ _ _ _ _ _ _ _ ⟨oa, hh _ _ h1, hc⟩ (F.args_list_repr_1 _)
    (list_body (n := 0) (R := callEnd Q E) hg h1 h2 (fun _ => hok) hu hT hh (fun e1 e2 => by rw [e1, e2] at hz; rw [Nat.zero_add]; exact hz) hQ)))
theorem call_tup (hg : A.guards = some g) (h1 : h₀.get? a = some oa) (hc : oa.cls = .type "tuple") (h2 : oa.data = .seq vs na) (hok : ∀ id r, ok (.builtin id ⟨.ref a :: r, []⟩ :: g)) (hu : A.units + (d + 1) < cLine) (hT : RepAll P w h₀ d ok vs.toList ts)
    (hh : ∀ b o, h₀.get? b = some o → s.heap.get? b = some o) (hz : (if lkT g a then "(...)" else tupleText ts : Str).length ≤ sizeLine)
    (hQ : ∀ h' u k, (∀ b o, s.heap.get? b = some o → h'.get? b = some o) → Q (.str (if lkT g a then "(...)" else tupleText ts) u) { s with heap := h', toks := k }) : wpAny (model P w) A (call (.builtin "tuple.__repr__") [.ref a]) Q E s :=
  wpAny_call (codeAny_call_builtin_own (Code.quiet_builtin _ (by decide +kernel)) F.entry_tuple_repr (F.slot_tuple_repr.check _ _ _ _ _ _ _ _ ⟨oa, hh _ _ h1, hc⟩ (F.args_tuple_repr_1 _)
    (tup_body (n := 0) (R := callEnd Q E) (isGuard_tuple_repr _) (units_under_tuple_repr _ _) hg h1 h2 (fun _ => hok _ _) hu hT hh (fun e1 => by rw [e1] at hz; rw [Nat.zero_add]; exact hz) hQ)))
end
end
end PD
set_option Elab.async false
set_option linter.all false
set_option maxRecDepth 100000
set_option maxHeartbeats 4000000
/-! PdRepr2: repr(x) as a reading: the text of data under the guards of the stack; bodies by the guards -/
namespace PD
open PySem PySem.Spec PyProof.Rows L2 PySem.Builtin PySem.Builtin.List
open Sem (wp)
/-! ### the text -/
mutual
inductive TxV (g : List Code) (G : Hp) : V → Str → Prop
  | non : TxV g G .non "None"
  | bl (b : Bool) : TxV g G (.bl b) (if b then ("True" : Str) else "False")
  | int (i : Int) : TxV g G (.int i) (toString i : String)
  | str (x : Str) : TxV g G (.str x) (reprText x)
  | lst {a : Addr} {xs : List V} {ts : List Str} : G a = some (.lst xs) → TxAll g G xs ts → TxV g G (.ref a) (if xs.isEmpty then "[]" else if lkL g a then "[...]" else listText ts)
  | tup {a : Addr} {xs : List V} {ts : List Str} : G a = some (.tup xs) → TxAll g G xs ts → TxV g G (.ref a) (if lkT g a then "(...)" else tupleText ts)
inductive TxAll (g : List Code) (G : Hp) : List V → List Str → Prop
  | nil : TxAll g G [] []
  | cons {v : V} {t : Str} {vs : List V} {ts : List Str} : TxV g G v t → TxAll g G vs ts → TxAll g G (v :: vs) (t :: ts)
end
mutual
/-- each leaf's text has at most L signs -/
def shw (L : Nat) : PyData → Prop
  | .none => 4 ≤ L
  | .bool _ => 5 ≤ L
  | .int i => i.natAbs.log2 < 1920 ∧ ((toString i : String) : Str).length ≤ L
  | .str x => (reprText x).length ≤ L
  | .list ds => shwL L ds
  | .tuple ds => shwL L ds
  | .dict _ => False
def shwL (L : Nat) : List PyData → Prop
  | [] => True
  | d :: ds => shw L d ∧ shwL L ds
end
mutual
def bnd (L : Nat) : PyData → Nat
  | .list ds => 5 + bndL L ds
  | .tuple ds => 5 + bndL L ds
  | _ => L
def bndL (L : Nat) : List PyData → Nat
  | [] => 0
  | d :: ds => (bnd L d + 2) + bndL L ds
end
theorem listText_le (ts : List Str) : (listText ts).length ≤ piled ts + 2 := by
  rw [listText_eq_join]
  cases ts with
  | nil => decide
  | cons t ts =>
    have := join_length_add (t :: ts) (by simp)
    rw [strLen_append, strLen_append]
    have e1 : (("[" : String) : Str).length = 1 := rfl
    have e2 : (("]" : String) : Str).length = 1 := rfl
    omega
theorem tupleText_le (ts : List Str) : (tupleText ts).length ≤ piled ts + 2 := by
  unfold tupleText
  cases ts with
  | nil => decide
  | cons t ts =>
    have := join_length_add (t :: ts) (by simp)
    rw [strLen_append, strLen_append]
    have e1 : (("(" : String) : Str).length = 1 := rfl
    have e2 : (((if (t :: ts).length == 1 then ",)" else ")" : String) : Str)).length ≤ 2 := by split <;> decide
    omega
section
variable {g : List Code} {G : Hp} {L : Nat}
mutual
theorem tx_ex : ∀ (d : PyData) (v : V), Dq G v d → shw L d → ∃ t, TxV g G v t ∧ t.length ≤ bnd L d
  | .none, _, h, s => by cases h; exact ⟨_, .non, by unfold bnd; exact Nat.le_trans (show _ ≤ 4 by decide) (by simpa [shw] using s)⟩
  | .bool b, _, h, s => by
    cases h
    refine ⟨_, .bl b, ?_⟩
    unfold bnd
    have : 5 ≤ L := by simpa [shw] using s
    cases b
    · exact Nat.le_trans (by decide) this
    · exact Nat.le_trans (by decide) this
  | .int i, _, h, s => by
    cases h
    refine ⟨_, .int i, ?_⟩
    unfold bnd
    exact (by simpa [shw] using s : _ ∧ _).2
  | .str x, _, h, s => by
    cases h
    refine ⟨_, .str x, ?_⟩
    unfold bnd
    simpa [shw] using s
  | .list ds, _, h, s => by
    cases h with
    | lst h1 h2 =>
      obtain ⟨ts, q1, q2⟩ := tx_all ds _ h2 (by simpa [shw] using s)
      refine ⟨_, .lst h1 q1, ?_⟩
      unfold bnd
      have z := listText_le ts
      split
      · exact Nat.le_trans (show _ ≤ 2 by decide) (by omega)
      · split
        · exact Nat.le_trans (show _ ≤ 5 by decide) (by omega)
        · omega
  | .tuple ds, _, h, s => by
    cases h with
    | tup h1 h2 =>
      obtain ⟨ts, q1, q2⟩ := tx_all ds _ h2 (by simpa [shw] using s)
      refine ⟨_, .tup h1 q1, ?_⟩
      unfold bnd
      have z := tupleText_le ts
      split
      · exact Nat.le_trans (show _ ≤ 5 by decide) (by omega)
      · omega
  | .dict _, _, _, s => by simp [shw] at s
theorem tx_all : ∀ (ds : List PyData) (vs : List V), DqAll G vs ds → shwL L ds → ∃ ts, TxAll g G vs ts ∧ piled ts ≤ bndL L ds
  | [], _, h, _ => by cases h; exact ⟨[], .nil, by simp [piled, bndL]⟩
  | d :: ds, _, h, s => by
    cases h with
    | cons h1 h2 =>
      have s : shw L d ∧ shwL L ds := by simpa [shwL] using s
      obtain ⟨t, q1, q2⟩ := tx_ex d _ h1 s.1
      obtain ⟨ts, q3, q4⟩ := tx_all ds _ h2 s.2
      refine ⟨t :: ts, .cons q1 q3, ?_⟩
      rw [piled_cons]
      unfold bndL
      omega
end
/-- the guards tell of all that is less deep than k what g tells -/
def okk (g : List Code) (G : Hp) (k : Nat) (g' : List Code) : Prop := ∀ (b : Addr) (d : PyData), Dq G (.ref b) d → d.depth < k → lkL g' b = lkL g b ∧ lkT g' b = lkT g b
theorem okk_mono {j k : Nat} (h : j ≤ k) {g' : List Code} (o : okk g G k g') : okk g G j g' := fun b d hd hl => o b d hd (by omega)
theorem okk_cons {a : Addr} {d : PyData} {g' : List Code} {id : String} {r : List Value} (hd : Dq G (.ref a) d) (o : okk g G (d.depth + 1) g') : okk g G d.depth (.builtin id ⟨.ref a :: r, []⟩ :: g') := fun b e he hl => by
  have ne : a ≠ b := fun z => by
    subst z
    rw [Dq.inj _ _ _ he hd] at hl
    exact absurd hl (Nat.lt_irrefl _)
  have q := o b e he (by omega)
  refine ⟨?_, ?_⟩
  · rw [← q.1]
    show (lstP (.ref b) (.builtin id ⟨.ref a :: r, []⟩, default) || lkL g' b) = lkL g' b
    have : lstP (.ref b) (.builtin id ⟨.ref a :: r, []⟩, default) = false := by
      unfold lstP
      split
      · rename_i e; cases e; exact beq_eq_false_iff_ne.mpr ne
      · rfl
    rw [this, Bool.false_or]
  · rw [← q.2]
    show (tupGuardF (.ref b) (.builtin id ⟨.ref a :: r, []⟩, default) || lkT g' b) = lkT g' b
    have : tupGuardF (.ref b) (.builtin id ⟨.ref a :: r, []⟩, default) = false := by
      simp [tupGuardF, ne]
    rw [this, Bool.false_or]
section
variable {P : Program} {w : World} {H : Hp} {h : Heap}
mutual
theorem rep_in (hk : HOk P w H h) (hs : Same G H) : ∀ (d : PyData) (v : V) (t : Str), Dq G v d → TxV g G v t → shw L d → ∀ u, RelV v u → RepIn P w h d.depth (okk g G (d.depth + 1)) u t
  | .none, _, _, hd, ht, _, u, r => by
    cases hd; cases ht
    obtain rfl : u = Value.none := r
    exact .leaf .none
  | .bool b, _, _, hd, ht, _, u, r => by
    cases hd; cases ht
    obtain rfl : u = Value.bool b := r
    exact .leaf (.bool b)
  | .int i, _, _, hd, ht, s, u, r => by
    cases hd; cases ht
    obtain ⟨k, rfl⟩ := r
    exact .leaf (.int k (by simpa [shw] using s : _ ∧ _).1)
  | .str x, _, _, hd, ht, s, u, r => by
    cases hd; cases ht
    obtain ⟨k, rfl⟩ := r
    intro n A g' E s' Q hz hg ho hu hh hQ
    exact ReprIs.str x k (by omega) n hz A E s' Q fun j => hQ s'.heap j fun _ _ e => e
  | .list ds, _, _, hd, ht, s, u, r => by
    cases hd with
    | @lst a xs _ h1 h2 =>
      cases ht with
      | tup q1 q2 => rw [h1] at q1; cases q1
      | @lst _ xs' ts q1 q2 =>
        have e : xs' = xs := by rw [h1] at q1; cases q1; rfl
        subst e
        obtain rfl : u = Value.ref a := r
        obtain ⟨_, its, n, vv, e⟩ := hk a _ (hs _ _ h1)
        have hd : Dq G (.ref a) (.list ds) := .lst h1 h2
        have dd : (PyData.list ds).depth = PyData.depthAll ds + 1 := by simp [PyData.depth]
        have all := rep_all hk hs ds _ ts h2 q2 (by simpa [shw] using s) its vv
        have el : xs'.isEmpty = its.toArray.isEmpty := by
          have := vv.length
          cases xs' <;> cases its <;> simp at this ⊢
        rw [dd, el]
        exact repIn_list e rfl rfl (fun g' o => (o a _ hd (by rw [dd]; omega)).1) (fun g' o r => by have := okk_cons (id := "list.__repr__.loop") (r := r) hd (by rw [dd]; exact o); rwa [dd] at this) all
  | .tuple ds, _, _, hd, ht, s, u, r => by
    cases hd with
    | @tup a xs _ h1 h2 =>
      cases ht with
      | lst q1 q2 => rw [h1] at q1; cases q1
      | @tup _ xs' ts q1 q2 =>
        have e : xs' = xs := by rw [h1] at q1; cases q1; rfl
        subst e
        obtain rfl : u = Value.ref a := r
        obtain ⟨_, its, vv, o, e, e2, n, e3⟩ := hk a _ (hs _ _ h1)
        have hd : Dq G (.ref a) (.tuple ds) := .tup h1 h2
        have dd : (PyData.tuple ds).depth = PyData.depthAll ds + 1 := by simp [PyData.depth]
        have all := rep_all hk hs ds _ ts h2 q2 (by simpa [shw] using s) its vv
        rw [dd]
        exact repIn_tup e e2 e3 (fun g' o => (o a _ hd (by rw [dd]; omega)).2) (fun g' o id r => by have := okk_cons (id := id) (r := r) hd (by rw [dd]; exact o); rwa [dd] at this) all
  | .dict _, _, _, _, _, s, _, _ => by simp [shw] at s
theorem rep_all (hk : HOk P w H h) (hs : Same G H) : ∀ (ds : List PyData) (vs : List V) (ts : List Str), DqAll G vs ds → TxAll g G vs ts → shwL L ds → ∀ us, Vals vs us → RepAll P w h (PyData.depthAll ds) (okk g G (PyData.depthAll ds + 1)) us ts
  | [], _, _, hd, ht, _, us, r => by
    cases hd; cases ht; cases r
    exact .nil
  | d :: ds, _, _, hd, ht, s, us, r => by
    cases hd with
    | cons h1 h2 =>
      cases ht with
      | cons q1 q2 =>
        cases r with
        | cons r1 r2 =>
          have s : shw L d ∧ shwL L ds := by simpa [shwL] using s
          have dd : PyData.depthAll (d :: ds) = max d.depth (PyData.depthAll ds) := by simp [PyData.depthAll]
          rw [dd]
          exact .cons ((rep_in hk hs d _ _ h1 q1 s.1 _ r1).mono (Nat.le_max_left _ _) fun g' o => okk_mono (by omega) o) ((rep_all hk hs ds _ _ h2 q2 s.2 _ r2).mono (Nat.le_max_right _ _) fun g' o => okk_mono (by omega) o)
end
/-- what repr tells of v, in a heap that H knows -/
def RepV (P : Program) (w : World) (A : Around) (H : Hp) (v : V) (t : Str) : Prop := ∀ (h : Heap) (s : Shared) (u : Value) (E : Value → Shared → Prop) (Q : Value → Shared → Prop), s.heap = h → HOk P w H h → RelV v u → (∀ h' k j, (∀ b o, s.heap.get? b = some o → h'.get? b = some o) → Q (.str t j) { s with heap := h', toks := k }) → wpAny (model P w) A (call (.builtin "repr") [u]) Q E s
theorem repV {A : Around} {d : PyData} {v : V} {t : Str} (hg : A.guards = some g) (hu : A.units + 100 < cLine) (hdep : d.depth ≤ 60) (hsq : ∃ ds, d = .list ds ∨ d = .tuple ds) (hd : Dq G v d) (ht : TxV g G v t) (hsh : shw L d) (hz : t.length ≤ sizeLine) (hs : Same G H) : RepV P w A H v t := by
  intro h s u E Q eh hk r hQ
  subst eh
  obtain ⟨ds, rfl | rfl⟩ := hsq
  · cases hd with
    | @lst a xs _ h1 h2 =>
      cases ht with
      | tup q1 q2 => rw [h1] at q1; cases q1
      | @lst _ xs' ts q1 q2 =>
        have e : xs' = xs := by rw [h1] at q1; cases q1; rfl
        subst e
        obtain rfl : u = Value.ref a := r
        obtain ⟨_, its, n, vv, e⟩ := hk a _ (hs _ _ h1)
        have hd : Dq G (.ref a) (.list ds) := .lst h1 h2
        have dd : (PyData.list ds).depth = PyData.depthAll ds + 1 := by simp [PyData.depth]
        have all := rep_all hk hs ds _ ts h2 q2 (by simpa [shw] using hsh) its vv
        have el : xs'.isEmpty = its.toArray.isEmpty := by
          have := vv.length
          cases xs' <;> cases its <;> simp at this ⊢
        rw [el] at hz hQ
        refine call_repr_slot (by omega) ⟨_, e, rfl⟩ F.slot_list_repr.toG (call_list (A := A.in1) hg e rfl rfl (fun r => ?_) (by show A.units + 1 + _ < _; omega) all (fun _ _ q => q) hz fun h' j k keep => ⟨_, _, rfl, hQ h' k j keep⟩)
        have := okk_cons (g := g) (g' := g) (id := "list.__repr__.loop") (r := r) hd (fun _ _ _ _ => ⟨rfl, rfl⟩)
        rwa [dd] at this
  · cases hd with
    | @tup a xs _ h1 h2 =>
      cases ht with
      | lst q1 q2 => rw [h1] at q1; cases q1
      | @tup _ xs' ts q1 q2 =>
        have e : xs' = xs := by rw [h1] at q1; cases q1; rfl
        subst e
        obtain rfl : u = Value.ref a := r
        obtain ⟨_, its, vv, o, e, e2, n, e3⟩ := hk a _ (hs _ _ h1)
        have hd : Dq G (.ref a) (.tuple ds) := .tup h1 h2
        have dd : (PyData.tuple ds).depth = PyData.depthAll ds + 1 := by simp [PyData.depth]
        have all := rep_all hk hs ds _ ts h2 q2 (by simpa [shw] using hsh) its vv
        refine call_repr_slot (by omega) ⟨_, e, e2⟩ F.slot_tuple_repr (call_tup (A := A.in1) hg e e2 e3 (fun id r => ?_) (by show A.units + 1 + _ < _; omega) all (fun _ _ q => q) hz fun h' j k keep => ⟨_, _, rfl, hQ h' k j keep⟩)
        have := okk_cons (g := g) (g' := g) (id := id) (r := r) hd (fun _ _ _ _ => ⟨rfl, rfl⟩)
        rwa [dd] at this
end
end
/-! ### repr(e) -/
def rRepr (P : Program) (w : World) (A : Around) : List V → Hp → VK → Prop := fun vs H Q => ∃ v t, vs = [v] ∧ RepV P w A H v t ∧ Q (.str t) H
theorem cr_repr {X : Cx} : CallR X (.builtin "repr") (rRepr X.prog X.w X.A) := by
  intro pins s σ H xs us Q I r ⟨v, t, e, hr, q⟩
  subst e
  cases r with
  | cons r1 r2 =>
    cases r2
    exact hr _ s _ _ _ rfl I.hok r1 fun h' k j keep => ⟨.str t, H, I.kept keep, ⟨j, rfl⟩, q⟩
/-! ### bodies, the guards known -/
def withG (A : Around) (g : List Code) : Around := { A with guards := some g }
theorem wpAny_split {α : Type} {M : Model} {A : Around} {t : Sem α} {Q : α → Shared → Prop} {E : Value → Shared → Prop} {s : Shared} (h : ∀ g, wpAny M (withG A g) t Q E s) : wpAny M A t Q E s :=
  fun Γ p hΓ => h _ Γ p ⟨hΓ.1, hΓ.2.1, hΓ.2.2.1, fun g e => Option.some.inj e, hΓ.2.2.2.2⟩
section
variable {X : Cx} {g : List Code} {pins : List (Addr × Obj)} {σ : L2.St} {H : Hp} {s : Shared}
abbrev Cx.wg (X : Cx) (g : List Code) : Cx := { X with A := withG X.A g }
theorem inv_to (I : Inv X pins σ H s) : Inv (Cx.wg X g) pins σ H s :=
  ⟨⟨I.ok.mod, I.ok.kind, I.ok.glob, I.ok.blt, I.ok.above, I.ok.inj, I.ok.has, I.ok.cab, I.ok.hd, I.ok.frames, I.ok.stk, I.ok.exf, I.ok.bs, I.ok.bsz, I.ok.noex, I.ok.exfs, I.ok.funs, I.ok.frf⟩, I.os, I.bare, I.base, I.loc, I.cell, I.free, I.freeC, I.pin, I.hok, I.len⟩
theorem inv_of (I : Inv (Cx.wg X g) pins σ H s) : Inv X pins σ H s :=
  ⟨⟨I.ok.mod, I.ok.kind, I.ok.glob, I.ok.blt, I.ok.above, I.ok.inj, I.ok.has, I.ok.cab, I.ok.hd, I.ok.frames, I.ok.stk, I.ok.exf, I.ok.bs, I.ok.bsz, I.ok.noex, I.ok.exfs, I.ok.funs, I.ok.frf⟩, I.os, I.bare, I.base, I.loc, I.cell, I.free, I.freeC, I.pin, I.hok, I.len⟩
theorem pss_g {st : List Stmt} {tg : List Code → TS} (h : ∀ g, PSs (Cx.wg X g) st (tg g)) : PSs X st (fun D σ H => ∀ g, tg g D σ H) := ⟨fun pins s σ H D I q => by
  refine wpAny_split fun g => wpAny_mono ((h g).run pins s σ H D (inv_to I) (q g)) (fun f s' z => ?_) fun _ _ z => z
  cases f with
  | next => obtain ⟨a, b, i, c⟩ := z; exact ⟨a, b, inv_of i, c⟩
  | brk => obtain ⟨a, b, i, c⟩ := z; exact ⟨a, b, inv_of i, c⟩
  | cont => obtain ⟨a, b, i, c⟩ := z; exact ⟨a, b, inv_of i, c⟩
  | ret u => obtain ⟨v, a, b, i, r, c⟩ := z; exact ⟨v, a, b, inv_of i, r, c⟩⟩
end
/-- a def by its body, the guards of the stack known -/
theorem DfC.fnG {P : Program} {w : World} {K : PySem.W.Frag} {mg : Str → Option Value} {base : Heap} {x : Str} {k n : Nat} {sp : Sp} {st : Stmt} {c : Addr} {N ps : List Str} (D : DfC K mg x st c) (S : FnScope N ps (defScope st)) (len : ∀ vs H Q E, sp vs H Q E → vs.length = ps.length) (hn : ps.length = n)
    (hb : ∀ (kV doc pm : Value) (an : Option Addr) (cdv ct : Value) (us : List Value), us.length = ps.length → bindArgs (PySem.W.fnOf x x (defArgs st) (defBody st) (defScope st) .none kV doc pm an cdv ct) ⟨us, []⟩ = pure (ps.zip us))
    (hbody : ∀ (f : Addr) (A : Around) (g : List Code) (outer : List Env) (s : Shared) (H : Hp) (vs : List V) (Q : VK) (E : XK), Room k (A.deeper (envOfC x (defScope st) s.heap.objs.size f (.ref c))) → sp vs H Q E →
      ∃ t, PSs (Cx.wg (cxOf CX0 P w K mg base N x (defScope st) f (.ref c) A outer s H E).nox g) (defBody st) t ∧ t { nx := fun _ H' => Q .non H', rt := Q } (start N vs) H) : Fn P w K mg base CX0 x (k + 1) n sp :=
  D.fn S len hn hb fun f A outer s H vs Q E hr hsp =>
    ⟨_, pss_g fun g => (Classical.choose_spec (hbody f A g outer s H vs Q E hr hsp)).1, fun g => (Classical.choose_spec (hbody f A g outer s H vs Q E hr hsp)).2⟩
end PD
set_option Elab.async false
set_option linter.all false
set_option maxRecDepth 100000
set_option maxHeartbeats 4000000
/-! K51d: lambdas handed to _law_met -/
namespace K50
open PySem PySem.Spec PyProof.Rows L2 PD StX RZ NdefX LamX
abbrev sPR : Stmt := top 64
abbrev sRef : Stmt := top 65
abbrev prB (i : Nat) : Stmt := stAt (defBody sPR) i
abbrev refB (i : Nat) : Stmt := stAt (defBody sRef) i
abbrev eM : Expr := subE 1 (valOf (stAt (bodyOf (prB 8)) 0))
abbrev eA : Expr := subE 1 (subE 0 (valOf (stAt (bodyOf (refB 0)) 0)))
abbrev eB : Expr := subE 1 (subE 1 (valOf (stAt (bodyOf (refB 0)) 1)))
abbrev eC : Expr := subE 1 (subE 1 (valOf (stAt (bodyOf (refB 0)) 2)))
abbrev eD : Expr := subE 1 (valOf (stAt (bodyOf (refB 3)) 0))
theorem scM : NScope ["_law_made", "_law_thing"] [] ["_law_made", "_law_thing"] (compSc eM) := nscope_by (by decide +kernel)
theorem scA : NScope ["_law_odd"] [] ["_law_odd"] (compSc eA) := nscope_by (by decide +kernel)
theorem scB : NScope ["_law_odd"] [] ["_law_odd"] (compSc eB) := nscope_by (by decide +kernel)
theorem scC : NScope ["_law_odd"] [] ["_law_odd"] (compSc eC) := nscope_by (by decide +kernel)
theorem scD : NScope ["_law_made", "_law_odd"] [] ["_law_made", "_law_odd"] (compSc eD) := nscope_by (by decide +kernel)
def lamArgs : Expr → Arguments
  | .Lambda a _ _ _ => a
  | _ => C8.fnArgs (.Pass ⟨0, 0, 0, 0⟩)
def lamBody : Expr → Expr
  | .Lambda _ b _ _ => b
  | _ => noExpr
abbrev FLam (q : Str) (sc : Scope) (cl : List (Str × Addr)) (c : Addr) : NF := ⟨"<lambda>", q, C8.fnArgs (.Pass ⟨0, 0, 0, 0⟩), [], sc, cl, c⟩
section
variable {P : Program} {w : World} {K : PySem.W.Frag} {mg : Str → Option Value} {base : Heap} {G H G' H' : Hp} {C CP CL CM : Addr}
def spLM (C CP CM : Addr) : List (Option V) → Sp := fun ws vs H Q E => ∃ v u, ws = [some v, some u] ∧ vs = [] ∧ spMended C CP CM [v, u] H Q E
def spLA (C CP : Addr) : List (Option V) → Sp := fun ws vs H Q E => ∃ v, ws = [some v] ∧ vs = [] ∧ spGoes C CP [v] H Q E
def spLB (C CP CM : Addr) : List (Option V) → Sp := fun ws vs H Q E => ∃ v, ws = [some v] ∧ vs = [] ∧ spMended C CP CM [v, .non] H Q E
def spLC (C CP CL : Addr) : List (Option V) → Sp := fun ws vs H Q E => ∃ v, ws = [some v] ∧ vs = [] ∧ spMends C CP CL [v, .non] H Q E
def spLD (C CP CL : Addr) : List (Option V) → Sp := fun ws vs H Q E => ∃ v u, ws = [some v, some u] ∧ vs = [] ∧ spMends C CP CL [v, u] H Q E
section
variable {f c : Addr} {q : Str} {cl : List (Str × Addr)}
theorem cal_M (F : FMended P w K mg base C CP CM) : Cal P w K mg base 12 f 0 (spL f (FLam q (compSc eM) cl c) (lamArgs eM) (lamBody eM) ["_law_made", "_law_thing"] (spLM C CP CM)) := by
  refine lam_cal (k := 11) (N := ["_law_made", "_law_thing"]) (ps := []) scM (fun pm ctv us hl => match us, hl with | [], _ => rfl) fun A outer s H vs ws Q E hr hw hv hsp => ?_
  obtain ⟨v, u, rfl, rfl, h⟩ := hsp
  refine ⟨_, pe_fn (E := E) F.fn hr (by rfl) (passes_call (takes_of rfl rfl rfl rfl) fun _ _ _ _ h => h) (pa_cons (pv 0) (pa_cons (pv 1) pa_nil)), ?_⟩
  exact ⟨_, rfl, _, rfl, h⟩
theorem cal_A (F : FGoes P w K mg base C CP) : Cal P w K mg base 5 f 0 (spL f (FLam q (compSc eA) cl c) (lamArgs eA) (lamBody eA) ["_law_odd"] (spLA C CP)) := by
  refine lam_cal (k := 4) (N := ["_law_odd"]) (ps := []) scA (fun pm ctv us hl => match us, hl with | [], _ => rfl) fun A outer s H vs ws Q E hr hw hv hsp => ?_
  obtain ⟨v, rfl, rfl, h⟩ := hsp
  refine ⟨_, pe_fn (E := E) F.fn hr (by rfl) (passes_call (takes_of rfl rfl rfl rfl) fun _ _ _ _ h => h) (pa_cons (pv 0) pa_nil), ?_⟩
  exact ⟨_, rfl, h⟩
theorem cal_B (F : FMended P w K mg base C CP CM) : Cal P w K mg base 12 f 0 (spL f (FLam q (compSc eB) cl c) (lamArgs eB) (lamBody eB) ["_law_odd"] (spLB C CP CM)) := by
  refine lam_cal (k := 11) (N := ["_law_odd"]) (ps := []) scB (fun pm ctv us hl => match us, hl with | [], _ => rfl) fun A outer s H vs ws Q E hr hw hv hsp => ?_
  obtain ⟨v, rfl, rfl, h⟩ := hsp
  refine ⟨_, pe_fn (E := E) F.fn hr (by rfl) (passes_call (takes_of rfl rfl rfl rfl) fun _ _ _ _ h => h) (pa_cons (pv 0) (pa_cons pe_non pa_nil)), ?_⟩
  exact ⟨_, rfl, h⟩
theorem cal_C (F : FMends P w K mg base C CP CL) : Cal P w K mg base 13 f 0 (spL f (FLam q (compSc eC) cl c) (lamArgs eC) (lamBody eC) ["_law_odd"] (spLC C CP CL)) := by
  refine lam_cal (k := 12) (N := ["_law_odd"]) (ps := []) scC (fun pm ctv us hl => match us, hl with | [], _ => rfl) fun A outer s H vs ws Q E hr hw hv hsp => ?_
  obtain ⟨v, rfl, rfl, h⟩ := hsp
  refine ⟨_, pe_fn (E := E) F.fn hr (by rfl) (passes_call (takes_of rfl rfl rfl rfl) fun _ _ _ _ h => h) (pa_cons (pv 0) (pa_cons pe_non pa_nil)), ?_⟩
  exact ⟨_, rfl, h⟩
theorem cal_D (F : FMends P w K mg base C CP CL) : Cal P w K mg base 13 f 0 (spL f (FLam q (compSc eD) cl c) (lamArgs eD) (lamBody eD) ["_law_made", "_law_odd"] (spLD C CP CL)) := by
  refine lam_cal (k := 12) (N := ["_law_made", "_law_odd"]) (ps := []) scD (fun pm ctv us hl => match us, hl with | [], _ => rfl) fun A outer s H vs ws Q E hr hw hv hsp => ?_
  obtain ⟨v, u, rfl, rfl, h⟩ := hsp
  refine ⟨_, pe_fn (E := E) F.fn hr (by rfl) (passes_call (takes_of rfl rfl rfl rfl) fun _ _ _ _ h => h) (pa_cons (pv 0) (pa_cons (pv 1) pa_nil)), ?_⟩
  exact ⟨_, rfl, _, rfl, h⟩
end
/-! ### a call of _law_met -/
theorem met_use {X : Cx} {W : Wl} {n kk : Nat} {σ : L2.St} {Q : VK} {qs : List Str} {c T : Addr} {scope : Scope} {prm : Arguments} {b : Expr} {js : List Nat} {fr : List Str} {sp' : Addr → List (Option V) → Sp} (told : V → Hp → Prop) (bad : Str → V → Prop)
    (m : MkT W.t base mg c T ((X.env.qual ++ "<lambda>") :: qs)) (hw : WOk W n H) (hs : Same G H) (hcl : Cl W G) (cal : ∀ f c', Cal P w K mg base kk f 0 (spL f (lamF X scope c') prm b fr (sp' c')))
    (hsp : ∀ c' H4, ExtW W G H G H4 → WOk W n H4 → ∀ (Q' : VK) (E : XK), (∀ v G' H', ExtW W G H4 G' H' → WOk W n H' → told v G' → Q' v H') → (∀ C0 fld tag dx v H', Case CP CL CM C0 fld tag → bad tag v → ExtW W G H4 G H' → WOk W n H' → H' dx = some (.xd [(fld, v)]) → E (.ref C0) (some dx) H') → sp' c' (js.map (slotAt σ)) [] H4 Q' E)
    (kT : ∀ v G' H' p, ExtW W G H G' H' → WOk W n H' → told v G' → H' p = none → Q (.ref p) (upd H' p (.tup [.str "told", v])))
    (kE : ∀ tag v H' p, bad tag v → ExtW W G H G H' → WOk W n H' → H' p = none → Q (.ref p) (upd H' p (.tup [.str tag, v]))) :
    tCallT (cloFrom X.env.cells scope.names []) fr js (spMet P w K mg base CP CL CM kk) (tCons (tLamb X (fun _ => True) W.t.Z T qs scope prm b) tNil) σ H Q := by
  show tLamb X (fun _ => True) W.t.Z T qs scope prm b σ H fun v1 H1 => trkd (cloFrom X.env.cells scope.names []) fr js (spMet P w K mg base CP CL CM kk) σ [v1] H1 Q
  refine lamb_use (base := base) (mg := mg) (c := c) m hw hs hcl fun fl c' H4 M x4 w4 => ?_
  intro Tc hc cap
  have nc : ∀ a o, H4 a = some o → a ∉ adr (cloFrom X.env.cells scope.names []) := fun a o e z => by rw [hc a z] at e; cases e
  have erm : rm (adr (cloFrom X.env.cells scope.names [])) (ovr (adr (cloFrom X.env.cells scope.names [])) Tc H4) = H4 := funext fun a => by
    by_cases z : a ∈ adr (cloFrom X.env.cells scope.names [])
    · rw [rm_in z, hc a z]
    · rw [rm_off z, ovr_off z]
  obtain ⟨T', hcod, _⟩ := M.code
  have eL : ovr (adr (cloFrom X.env.cells scope.names [])) Tc H4 fl = some (LmO fl (lamF X scope c') prm b) := by rw [ovr_off (nc _ _ M.at_)]; exact M.at_
  have celd := cap.celled
  -- the pair that is told, the cells put back
  have fin : ∀ (H' : Hp) (tag : Str) (v : V), (∀ a ∈ adr (cloFrom X.env.cells scope.names []), H' a = none) → (∀ p, H' p = none → Q (.ref p) (upd H' p (.tup [.str tag, v]))) → ∀ p, ovr (adr (cloFrom X.env.cells scope.names [])) (ovr (adr (cloFrom X.env.cells scope.names [])) Tc H4) H' p = none →
      (∀ c ∈ adr (cloFrom X.env.cells scope.names []), upd (ovr (adr (cloFrom X.env.cells scope.names [])) (ovr (adr (cloFrom X.env.cells scope.names [])) Tc H4) H') p (.tup [.str tag, v]) c = Tc c) ∧
      Q (.ref p) (rm (adr (cloFrom X.env.cells scope.names [])) (upd (ovr (adr (cloFrom X.env.cells scope.names [])) (ovr (adr (cloFrom X.env.cells scope.names [])) Tc H4) H') p (.tup [.str tag, v]))) := fun H' tag v n3 hQ p hp => by
    have pc : p ∉ adr (cloFrom X.env.cells scope.names []) := fun z => by
      obtain ⟨o, e⟩ := celd p z
      rw [ovr_in z, e] at hp; cases hp
    have e : rm (adr (cloFrom X.env.cells scope.names [])) (upd (ovr (adr (cloFrom X.env.cells scope.names [])) (ovr (adr (cloFrom X.env.cells scope.names [])) Tc H4) H') p (.tup [.str tag, v])) = upd H' p (.tup [.str tag, v]) := funext fun a => by
      by_cases z : a ∈ adr (cloFrom X.env.cells scope.names [])
      · rw [rm_in z, upd_ne (show a ≠ p from fun y => pc (y ▸ z)), n3 a z]
      · rw [rm_off z]
        by_cases y : a = p
        · subst y; rw [upd_same, upd_same]
        · rw [upd_ne y, upd_ne y, ovr_off z]
    refine ⟨fun c' hc' => ?_, ?_⟩
    · rw [upd_ne (show c' ≠ p from fun y => pc (y ▸ hc')), ovr_in hc', ovr_in hc']
    · rw [e]
      rw [ovr_off pc] at hp
      exact hQ p hp
  refine ⟨fl, _, rfl, isFn_lam eL, cal fl c', fun Q2 E2 hq he => ?_⟩
  refine ⟨js.map (slotAt σ), T', eL, by rw [show (lamF X scope c').c = c' from rfl, ovr_off (nc _ _ hcod)]; exact hcod, cap, ?_⟩
  rw [show (lamF X scope c').cl = cloFrom X.env.cells scope.names [] from rfl, erm]
  refine hsp c' H4 x4 w4 _ _ (fun v G2 H2 x w' tv n3 => ?_) fun C0 fld tag dx v H2 hcs hb x w' hx n3 => ?_
  · exact hq v _ (fin H2 "told" v n3 fun p hp => kT v G2 H2 p (x4.trans x) w' tv hp)
  · have dc : dx ∉ adr (cloFrom X.env.cells scope.names []) := fun z => by rw [n3 dx z] at hx; cases hx
    exact he C0 fld tag dx v _ hcs (by rw [ovr_off dc]; exact hx) (fin H2 tag v n3 fun p hp => kE tag v H2 p hb (x4.trans x) w' hp)
theorem extW_same {W : Wl} (hs : Same G H) (cl : Cl W G) (e : Same H H') : ExtW W G H G H' := ⟨fun a o q _ => e _ _ q, fun a q => e.free q, Same.refl _, hs.trans e, fun _ h => .inl h, cl⟩
theorem spm_len {k : Nat} : ∀ vs H Q E, spMet P w K mg base CP CL CM k vs H Q E → vs.length = 1 := by
  rintro vs H Q E ⟨f, sp, rfl, _⟩; rfl
end
end K50
set_option Elab.async false
set_option linter.all false
set_option maxRecDepth 100000
set_option maxHeartbeats 4000000
/-! K51e: what mends do, no program in sight -/
namespace K50
open PySem PySem.Spec PyProof.Rows L2 PD
/-! ### what goes on goes on when mended -/
/-- the places are within -/
def Fit (ls : List Lay) : Mnd → Prop
  | .add _ p _ => p ≤ ls.length
  | .shift _ p t => p < ls.length ∧ t < ls.length
theorem withL_app {as : List Lay} {m : Mnd} (h : Fit as m) (bs : List Lay) : withL (as ++ bs) m = withL as m ++ bs := by
  cases m with
  | add i p l =>
    have h : p ≤ as.length := h
    simp only [withL]
    rw [List.take_append_of_le_length h, List.drop_append_of_le_length h]
    simp
  | shift i p t =>
    obtain ⟨h1, h2⟩ : p < as.length ∧ t < as.length := h
    simp only [withL]
    rw [List.take_append_of_le_length (l₁ := as) (i := p) (by omega), List.drop_append_of_le_length (l₁ := as) (i := p + 1) (by omega), ← List.append_assoc]
    have e : (as.take p ++ as.drop (p + 1)).length = as.length - 1 := by simp; omega
    rw [List.take_append_of_le_length (by rw [e]; omega), List.drop_append_of_le_length (by rw [e]; omega)]
    have g : (as ++ bs).getD p (.wo, 0) = as.getD p (.wo, 0) := by
      rw [List.getD_eq_getElem?_getD, List.getD_eq_getElem?_getD, List.getElem?_append_left h1]
    rw [g]; simp
structure FitR (ss : List Stp) (m : Mnd) : Prop where
  ix : m.ix < ss.length
  pt : Fit (stp ss m.ix).pt m
  tk : m.ix + 1 < ss.length → Fit (stp ss (m.ix + 1)).tk m
theorem FormM.fitR {ss : List Stp} {m : Mnd} (h : FormM ss m) : FitR ss m := by
  have room : ∀ i, roomS ss i ≤ (stp ss i).pt.length ∧ (i + 1 < ss.length → roomS ss i ≤ (stp ss (i + 1)).tk.length) := fun i => by
    unfold roomS
    split <;> omega
  cases m with
  | add i p l =>
    obtain ⟨h1, h2, _⟩ := h
    exact ⟨h1, Nat.le_trans h2 (room i).1, fun hn => Nat.le_trans h2 ((room i).2 hn)⟩
  | shift i p t =>
    obtain ⟨h1, h2, h3, _⟩ := h
    exact ⟨h1, ⟨Nat.lt_of_lt_of_le h2 (room i).1, Nat.lt_of_lt_of_le h3 (room i).1⟩, fun hn => ⟨Nat.lt_of_lt_of_le h2 ((room i).2 hn), Nat.lt_of_lt_of_le h3 ((room i).2 hn)⟩⟩
/-- the same mend, one step on -/
def Mnd.dec : Mnd → Mnd
  | .add i p l => .add (i - 1) p l
  | .shift i p t => .shift (i - 1) p t
theorem dec_ix (m : Mnd) : m.dec.ix = m.ix - 1 := by cases m <;> rfl
theorem dec_withL (ls : List Lay) (m : Mnd) : withL ls m.dec = withL ls m := by cases m <;> rfl
theorem dec_fit (ls : List Lay) (m : Mnd) : Fit ls m.dec = Fit ls m := by cases m <;> rfl
theorem stp_succ (s : Stp) (ss : List Stp) (i : Nat) : stp (s :: ss) (i + 1) = stp ss i := by simp [stp]
theorem mendS_cons {s : Stp} {ss : List Stp} {m : Mnd} {i : Nat} (h : m.ix = i + 1) : mendS (s :: ss) m = s :: mendS ss m.dec := by
  have hd : m.dec.ix = i := by rw [dec_ix, h]; rfl
  unfold mendS mendAt
  rw [hd, h, stp_succ, stp_succ]
  by_cases hn : i + 1 < ss.length
  · rw [if_pos hn, if_pos (by rw [List.length_cons]; omega), List.set_cons_succ, List.set_cons_succ, dec_withL, dec_withL]
  · rw [if_neg hn, if_neg (by rw [List.length_cons]; omega), List.set_cons_succ, dec_withL]
theorem FitR.cons {s : Stp} {ss : List Stp} {m : Mnd} {i : Nat} (h : m.ix = i + 1) (f : FitR (s :: ss) m) : FitR ss m.dec := by
  have hd : m.dec.ix = i := by rw [dec_ix, h]; rfl
  refine ⟨?_, ?_, fun hn => ?_⟩
  · have := f.ix
    rw [h, List.length_cons] at this
    rw [hd]; omega
  · have := f.pt
    rw [h, stp_succ] at this
    rw [hd, dec_fit]; exact this
  · rw [hd] at hn
    have := f.tk (by rw [h, List.length_cons]; omega)
    rw [h, stp_succ] at this
    rw [hd, dec_fit]; exact this
theorem goes_mended : ∀ (ss : List Stp) (m : Mnd) (k : Nat) (msg : List Lay), FitR ss m → stopFrom k msg ss = none → stopFrom k msg (mendS ss m) = none
  | [], m, _, _, f, _ => absurd f.ix (Nat.not_lt_zero _)
  | s :: ss, m, k, msg, f, h => by
    rw [stopFrom] at h
    split at h
    case isFalse => cases h
    case isTrue ht =>
    cases hm : m.ix with
    | succ i =>
      rw [mendS_cons hm, stopFrom, if_pos ht]
      exact goes_mended ss m.dec _ _ (f.cons hm) h
    | zero =>
      have fp : Fit s.pt m := by have := f.pt; rw [hm] at this; exact this
      cases ss with
      | nil =>
        have e : mendS [s] m = [⟨s.part, s.tk, withL s.pt m⟩] := by
          unfold mendS mendAt
          rw [hm]; rfl
        rw [e, stopFrom, if_pos ht]; rfl
      | cons s2 r =>
        have e : mendS (s :: s2 :: r) m = ⟨s.part, s.tk, withL s.pt m⟩ :: ⟨s2.part, withL s2.tk m, s2.pt⟩ :: r := by
          unfold mendS mendAt
          rw [hm, if_pos (by simp)]; rfl
        have ft : Fit s2.tk m := by have := f.tk (by rw [hm]; simp); rw [hm] at this; exact this
        rw [stopFrom] at h
        split at h
        case isFalse => cases h
        case isTrue h2 =>
        rw [e, stopFrom, if_pos ht, stopFrom]
        have key : s.pt ++ msg.drop s.tk.length = s2.tk ++ (s.pt ++ msg.drop s.tk.length).drop s2.tk.length := by
          conv => lhs; rw [← List.take_append_drop s2.tk.length (s.pt ++ msg.drop s.tk.length), h2]
        have key2 : withL s.pt m ++ msg.drop s.tk.length = withL s2.tk m ++ (s.pt ++ msg.drop s.tk.length).drop s2.tk.length := by
          rw [← withL_app fp, ← withL_app ft, ← key]
        show (if (withL s.pt m ++ msg.drop s.tk.length).take (withL s2.tk m).length = withL s2.tk m then stopFrom (k + 1 + 1) (s2.pt ++ (withL s.pt m ++ msg.drop s.tk.length).drop (withL s2.tk m).length) r else some (k + 1)) = none
        rw [key2, List.take_left, if_pos rfl, List.drop_left]
        exact h
/-! ### the mends that are found -/
theorem scan_mem (ss : List Stp) : ∀ (ms : List Mnd) (st : List (List Stp) × List Mnd) (m : Mnd), m ∈ (ms.foldl (scanSt ss) st).2 → m ∈ st.2 ∨ (m ∈ ms ∧ wrongFrom 0 (mendS ss m) = none)
  | [], st, m, h => .inl h
  | x :: ms, st, m, h => by
    rw [List.foldl_cons] at h
    rcases scan_mem ss ms _ m h with h | ⟨h1, h2⟩
    · unfold scanSt at h
      split at h
      · rename_i hc
        rcases List.mem_append.mp h with h | h
        · exact .inl h
        · rw [List.mem_singleton.mp h]
          exact .inr ⟨List.mem_cons_self .., hc.1⟩
      · exact .inl h
    · exact .inr ⟨List.mem_cons_of_mem _ h1, h2⟩
theorem all_mem {ss : List Stp} {ls : List Lay} (ok : okLays ls) {m : Mnd} (h : m ∈ allMends ss ls) : FormM ss m ∧ wrongFrom 0 (mendS ss m) = none := by
  rcases scan_mem ss _ _ m h with h | ⟨h1, h2⟩
  · cases h
  · exact ⟨tries_form h1 ok, h2⟩
/-- the law's own protocols and layers -/
structure LawP (ss : List Stp) (ls : List Lay) : Prop where
  R : Right ss
  len : ss.length ≤ 4
  few : Few 3 ss
  tl : TryLs ls
section
variable {ss : List Stp} {ls : List Lay}
theorem LawP.room (h : LawP ss ls) (i : Nat) : roomS ss i ≤ 3 := by
  unfold roomS
  have key : ∀ j, (stp ss j).pt.length ≤ 3 := fun j => by
    rcases Nat.lt_or_ge j ss.length with hj | hj
    · exact (h.few _ (stp_mem hj)).2
    · rw [stp, List.getD_eq_getElem?_getD, List.getElem?_eq_none hj]; exact Nat.zero_le _
  have := key i
  split <;> omega
theorem LawP.small (h : LawP ss ls) : Small ss ls := ⟨by have := h.len; omega, fun i => by have := h.room i; omega, by have := h.tl.len; omega⟩
theorem LawP.few9 (h : LawP ss ls) : Few 999 ss := fun s hs => by have := h.few s hs; omega
theorem LawP.oks (h : LawP ss ls) : okLays ls := ⟨by have := h.tl.len; omega, h.tl.ok⟩
theorem LawP.num (h : LawP ss ls) : (allMends ss (sortLs ls)).length ≤ 500 := by
  have h1 := (scan_len ss (triesS ss (sortLs ls)) ([ss], [])).2
  have hlen := h.len
  have hl : (sortLs ls).length ≤ 9 := by rw [sortLs_len]; exact h.tl.len
  have ha : ∀ i, (addsAt ss (sortLs ls) i).length ≤ 36 := fun i => by
    unfold addsAt
    refine Nat.le_trans (flat_len (M := 9) fun p _ => by rw [List.length_map]; exact hl) ?_
    rw [List.length_range]
    have := h.room i
    omega
  have hb : ∀ i, (shiftsAt ss i).length ≤ 9 := fun i => by
    unfold shiftsAt
    have := h.room i
    refine Nat.le_trans (flat_len (M := 3) fun p _ => ?_) ?_
    · rw [List.length_map]
      exact Nat.le_trans (List.length_filter_le _ _) (by rw [List.length_range]; exact this)
    · rw [List.length_range]; omega
  have h2 : ((List.range ss.length).flatMap (addsAt ss (sortLs ls))).length ≤ 4 * 36 := Nat.le_trans (flat_len fun i _ => ha i) (by rw [List.length_range]; exact Nat.mul_le_mul_right _ hlen)
  have h3 : ((List.range ss.length).flatMap (shiftsAt ss)).length ≤ 4 * 9 := Nat.le_trans (flat_len fun i _ => hb i) (by rw [List.length_range]; exact Nat.mul_le_mul_right _ hlen)
  unfold allMends
  simp only [List.length_nil] at h1
  have h4 : (triesS ss (sortLs ls)).length ≤ 200 := by
    unfold triesS
    rw [List.length_append]; omega
  omega
theorem LawP.mem (h : LawP ss ls) {m : Mnd} (hm : m ∈ allMends ss (sortLs ls)) : FormM ss m ∧ wrongFrom 0 (mendS ss m) = none := all_mem (okLays_sort h.oks) hm
theorem LawP.goes (h : LawP ss ls) {m : Mnd} (hm : m ∈ allMends ss (sortLs ls)) (hs : stopFrom 0 [] ss = none) : stopFrom 0 [] (mendS ss m) = none := goes_mended ss m 0 [] (FormM.fitR (h.mem hm).1) hs
end
/-- the steps that come of a mend are right -/
theorem mend_right {m : Mnd} {ss : List Stp} (hR : Right ss) (hf : Few 999 ss) (h1 : FormM ss m) (h2 : wrongFrom 0 (mendS ss m) = none) : Right (mendS ss m) :=
  ⟨mendS_ne hR.ne, by rw [mendS_len]; exact hR.len, mendS_form h1 hR.form hf, h2⟩
/-- unlike -/
theorem unlike_of {ls : List Lay} (h : ls.Nodup) : unlikeD (ls.map encL) = true := by
  unfold unlikeD
  rw [List.all_eq_true]
  have key : ∀ (k : Nat) (as bs : List Lay), (as ++ bs).Nodup → as.length = k → ∀ b ∈ enumN k (bs.map encL), hasD (((as ++ bs).map encL).take b.1) b.2 = false := by
    intro k as bs
    induction bs generalizing k as with
    | nil => intro _ _ b hb; cases hb
    | cons x bs ih =>
      intro hn hk b hb
      rcases List.mem_cons.mp hb with rfl | hb
      · show hasD (((as ++ x :: bs).map encL).take k) (encL x) = false
        rw [← hk, ← List.map_take, List.take_left]
        unfold hasD
        rw [List.any_map, List.any_eq_false]
        intro y hy
        show ¬ PyData.eqv (encL y) (encL x) = true
        rw [eqv_lay]
        simp
        rintro rfl
        exact (List.nodup_append.mp hn).2.2 y hy y (List.mem_cons_self ..) rfl
      · have := ih (k + 1) (as ++ [x]) (by simpa using hn) (by simp [hk]) b hb
        simpa using this
  intro b hb
  have := key 0 [] ls (by simpa using h) rfl b hb
  rw [List.nil_append] at this
  rw [this]; rfl
end K50
set_option Elab.async false
set_option linter.all false
set_option maxRecDepth 100000
set_option maxHeartbeats 4000000
/-! K51f0: what _law_protocol_right asks, call by call -/
namespace K50
open PySem PySem.Spec PyProof.Rows L2 PD StX RZ NdefX LamX
/-! ### loosened -/
theorem lz_leaf {d e : PyData} (h : Lz d e) (hs : isSeq d = false) : e = d := by
  cases h with
  | same _ => rfl
  | seq h1 _ _ => rw [hs] at h1; cases h1
theorem lz_seq {d e : PyData} (h : Lz d e) (hs : isSeq d = true) : ∃ ys, LzAll (itemsD d) ys ∧ Row e ys := by
  cases h with
  | same h1 => rw [hs] at h1; cases h1
  | seq _ h2 h3 => exact ⟨_, h2, h3⟩
theorem lz_lay {l : Lay} {e : PyData} (h : Lz (encL l) e) : LzL e l := by
  obtain ⟨ys, h1, h2⟩ := lz_seq h rfl
  cases h1 with
  | cons a b =>
    cases b with
    | cons c d =>
      cases d
      rw [lz_leaf a rfl, lz_leaf c rfl] at h2
      exact h2
theorem lz_all {α : Type} {f : α → PyData} {R : PyData → α → Prop} (hR : ∀ a e, Lz (f a) e → R e a) : ∀ {as : List α} {ys : List PyData}, LzAll (as.map f) ys → All2 R ys as
  | [], _, h => by cases h; exact .nil
  | a :: as, _, h => by
    cases h with
    | cons h1 h2 => exact .cons (hR a _ h1) (lz_all hR h2)
theorem lz_lays {ls : List Lay} {e : PyData} (h : Lz (.list (ls.map encL)) e) : LzLs e ls := by
  obtain ⟨ys, h1, h2⟩ := lz_seq h rfl
  exact ⟨ys, h2, lz_all (f := encL) (R := LzL) (fun a e h => lz_lay h) h1⟩
theorem lz_stp {s : Stp} {e : PyData} (h : Lz (encS s) e) : LzS e s := by
  obtain ⟨ys, h1, h2⟩ := lz_seq h rfl
  cases h1 with
  | cons a b =>
    cases b with
    | cons c d =>
      cases d with
      | cons e f =>
        cases f
        rw [lz_leaf a rfl] at h2
        exact ⟨_, _, h2, lz_lays c, lz_lays e⟩
theorem lz_steps {ss : List Stp} {e : PyData} (h : Lz (encSS ss) e) : LzSS e ss := by
  obtain ⟨ys, h1, h2⟩ := lz_seq h rfl
  exact ⟨ys, h2, lz_all (f := encS) (R := LzS) (fun a e h => lz_stp h) h1⟩
theorem lz_mend {m : Mnd} {e : PyData} (h : Lz (encM m) e) : LzM e m := by
  cases m with
  | add i p l =>
    obtain ⟨ys, h1, h2⟩ := lz_seq h rfl
    cases h1 with
    | cons a b =>
      cases b with
      | cons c d =>
        cases d with
        | cons e f =>
          cases f with
          | cons g k =>
            cases k
            rw [lz_leaf a rfl, lz_leaf c rfl, lz_leaf e rfl] at h2
            exact ⟨_, h2, lz_lay g⟩
  | shift i p t =>
    obtain ⟨ys, h1, h2⟩ := lz_seq h rfl
    cases h1 with
    | cons a b =>
      cases b with
      | cons c d =>
        cases d with
        | cons e f =>
          cases f with
          | cons g k =>
            cases k
            rw [lz_leaf a rfl, lz_leaf c rfl, lz_leaf e rfl, lz_leaf g rfl] at h2
            exact h2
theorem LzM.sh {a : PyData} {m : Mnd} (h : LzM a m) : Sh 3 a := by
  cases m with
  | add i p l =>
    obtain ⟨y, hr, hl⟩ := h
    refine hr.sh (k := 2) fun d hd => ?_
    simp only [List.mem_cons, List.not_mem_nil, or_false] at hd
    rcases hd with rfl | rfl | rfl | rfl
    · exact ⟨by decide +kernel, by simp [PyData.depth]⟩
    · exact (sh_int _).mono (by decide)
    · exact (sh_int _).mono (by decide)
    · exact hl.sh
  | shift i p t =>
    refine Row.sh (k := 2) h fun d hd => ?_
    simp only [List.mem_cons, List.not_mem_nil, or_false] at hd
    rcases hd with rfl | rfl | rfl | rfl
    · exact ⟨by decide +kernel, by simp [PyData.depth]⟩
    · exact (sh_int _).mono (by decide)
    · exact (sh_int _).mono (by decide)
    · exact (sh_int _).mono (by decide)
theorem lzL_inj {a : PyData} {l m : Lay} (h : LzL a l) (k : LzL a m) : l = m := by
  have e := (Row.items h).symm.trans (Row.items k)
  simp only [List.cons.injEq, PyData.str.injEq, PyData.int.injEq, and_true] at e
  exact Prod.ext (kd_inj.mp e.1) (by omega)
theorem all2_inj {α : Type} {R : PyData → α → Prop} (hR : ∀ (d : PyData) (a b : α), R d a → R d b → a = b) : ∀ {ds : List PyData} {as bs : List α}, All2 R ds as → All2 R ds bs → as = bs
  | _, _, _, .nil, .nil => rfl
  | _, _, _, .cons h t, .cons k u => congr (congrArg _ (hR _ _ _ h k)) (all2_inj hR t u)
theorem lzLs_inj {a : PyData} {ls ms : List Lay} (h : LzLs a ls) (k : LzLs a ms) : ls = ms := by
  obtain ⟨ds, h1, h2⟩ := h
  obtain ⟨es, k1, k2⟩ := k
  have e := h1.items.symm.trans k1.items
  subst e
  exact all2_inj (R := LzL) (fun _ _ _ h k => lzL_inj h k) h2 k2
/-! ### how great -/
theorem nearB_list {k : Nat} {ds : List PyData} (h : ∀ d ∈ ds, nearB k d = true) (hl : ds.length ≤ 1000) : nearB (k + 1) (.list ds) = true := by
  unfold nearB
  rw [decide_eq_true hl, Bool.true_and, List.all_eq_true]
  exact h
theorem nearB_tup {k : Nat} {ds : List PyData} (h : ∀ d ∈ ds, nearB k d = true) (hl : ds.length ≤ 1000) : nearB (k + 1) (.tuple ds) = true := by
  unfold nearB
  rw [decide_eq_true hl, Bool.true_and, List.all_eq_true]
  exact h
theorem nearB_lay (l : Lay) : nearB 1 (encL l) = true := by simp [encL, nearB, leafB, kdOk]
theorem nearB_lays {ls : List Lay} (h : ls.length ≤ 1000) : nearB 2 (.list (ls.map encL)) = true := nearB_list (fun d hd => by
  obtain ⟨l, _, rfl⟩ := List.mem_map.mp hd
  exact nearB_lay l) (by simpa using h)
theorem nearB_lays4 {ss : List Stp} {ls : List Lay} (h : LawP ss ls) : nearB 4 (.list (ls.map encL)) = true := nearB_list (fun d hd => by
  obtain ⟨l, _, rfl⟩ := List.mem_map.mp hd
  simp [encL, nearB, leafB, kdOk]) (by rw [List.length_map]; have := h.tl.len; omega)
theorem nearB_steps {ss : List Stp} {k : Nat} (hk : k ≤ 1000) (h : Few k ss) (hl : ss.length ≤ 1000) : nearB 4 (encSS ss) = true := nearB_list (fun d hd => by
  obtain ⟨s, hs, rfl⟩ := List.mem_map.mp hd
  refine nearB_tup (fun x hx => ?_) (by simp)
  simp only [List.mem_cons, List.not_mem_nil, or_false] at hx
  rcases hx with rfl | rfl | rfl
  · rfl
  · exact nearB_lays (by have := (h s hs).1; omega)
  · exact nearB_lays (by have := (h s hs).2; omega)) (by simpa using hl)
theorem nearB_mend (m : Mnd) : nearB 2 (encM m) = true := by
  cases m with
  | add i p l => simp [encM, encL, nearB, leafB, kdOk, okAdd]
  | shift i p t => simp [encM, nearB, leafB, okShift]
theorem nearB_flat : ∀ (k : Nat) (d : PyData), nearB k d = true → Flat k d
  | k, d, h => by
    cases h1 : isSeq d with
    | false =>
      have h2 := nearB_leaf h h1
      exact .leaf h1 (by cases d <;> first | rfl | cases h2)
    | true =>
      obtain ⟨j, rfl, hl, hi⟩ := nearB_items h h1
      exact .seq h1 hl fun x hx => nearB_flat j x (hi x hx)
theorem Flat.mono : ∀ {j k : Nat} {d : PyData}, Flat j d → j ≤ k → Flat k d
  | _, _, _, .leaf h1 h2, _ => .leaf h1 h2
  | _, 0, _, .seq _ _ _, h => by omega
  | _, k + 1, _, .seq h1 h2 h3, h => .seq h1 h2 fun x hx => (h3 x hx).mono (by omega)
theorem Rel.mono {C : Addr} : ∀ {j k : Nat} {d : PyData}, Rel C j d → j ≤ k → Rel C k d
  | _, _, _, .leaf h1 h2 h3, _ => .leaf h1 h2 h3
  | _, _, _, .ins, _ => .ins
  | _, 0, _, .seq _ _ _, h => by omega
  | _, k + 1, _, .seq h1 h2 h3, h => .seq h1 h2 fun x hx => (h3 x hx).mono (by omega)
theorem nodesL_map {α : Type} {f : α → PyData} {M : Nat} (h : ∀ a, nodes (f a) ≤ M) : ∀ as : List α, nodesL (as.map f) ≤ as.length * M
  | [] => by simp [nodesL]
  | a :: as => by
    have h1 := h a
    have h2 := nodesL_map h as
    rw [List.map_cons, nodesL, List.length_cons, Nat.add_mul]
    omega
theorem nodes_lay (l : Lay) : nodes (encL l) ≤ 1 := by simp [encL, nodes, nodesL]
theorem nodes_lays {ls : List Lay} (h : ls.length ≤ 9) : nodes (.list (ls.map encL)) ≤ 10 := by
  have := nodesL_map nodes_lay ls
  rw [nodes]; omega
theorem nodes_mend (m : Mnd) : nodes (encM m) ≤ 2 := by cases m <;> simp [encM, encL, nodes, nodesL]
theorem nodes_stepsL : ∀ ss : List Stp, Few 3 ss → nodesL (ss.map encS) ≤ ss.length * 9
  | [], _ => by simp [nodesL]
  | s :: ss, h => by
    have h1 := nodesL_map nodes_lay s.tk
    have h2 := nodesL_map nodes_lay s.pt
    have h3 := h s (List.mem_cons_self ..)
    have h4 := nodes_stepsL ss fun x hx => h x (List.mem_cons_of_mem _ hx)
    have h5 : nodes (encS s) ≤ 9 := by
      simp only [encS, nodes, nodesL]
      omega
    rw [List.map_cons, nodesL, List.length_cons, Nat.add_mul]
    omega
theorem nodes_steps {ss : List Stp} (h : Few 3 ss) (hl : ss.length ≤ 4) : nodes (encSS ss) ≤ 37 := by
  have := nodes_stepsL ss h
  rw [encSS, nodes]
  omega
theorem nearB_up : ∀ {j k : Nat} {d : PyData}, nearB j d = true → j ≤ k → nearB k d = true
  | j, k, d, h, hk => by
    cases h1 : isSeq d with
    | false =>
      have h2 := nearB_leaf h h1
      cases d <;> first | (cases h1; done) | (cases h2; done) | (cases k <;> exact h2)
    | true =>
      obtain ⟨i, rfl, hl, hi⟩ := nearB_items h h1
      obtain ⟨k, rfl⟩ : ∃ k', k = k' + 1 := ⟨k - 1, by omega⟩
      cases d with
      | list ds => exact nearB_list (fun x hx => nearB_up (hi x hx) (by omega)) hl
      | tuple ds => exact nearB_tup (fun x hx => nearB_up (hi x hx) (by omega)) hl
      | _ => cases h1
theorem nearB_rise {d : PyData} (h : nearB 2 d = true) : nearB 4 d = true := nearB_up h (by decide)
/-! ### calls whose arguments draw -/
def tK (vs : List V) : TA := fun _ H Q => Q vs H
section
variable {P : Program} {w : World} {K : PySem.W.Frag} {mg : Str → Option Value} {base : Heap} {G H G' H' : Hp} {C CP CL CM : Addr} {W : Wl} {σ : L2.St} {c c1 : Nat} {D : PyData → Prop} {DS : List PyData → Prop} {t tk : TA} {te : TE}
theorem PRA_tK {vs : List V} {ds : List PyData} (h : DqAll G vs ds) : PRA (tK vs) σ G ds := fun H Q hs k => k vs G H (.refl hs) h
theorem PN_via {F : TA → TE} (hF : ∀ (H : Hp) (Q : VK), t σ H (fun vs H1 => F (tK vs) σ H1 Q) → F t σ H Q) (h : PNA W t σ G c DS) (hd : ∀ ds, DS ds → ∃ d, D d ∧ ∀ vs G1, DqAll G1 vs ds → PR (F (tK vs)) σ G1 d) : PN W (F t) σ G c D := fun H n Q hs cl hw hl k =>
  hF H Q (h H n _ hs cl hw hl fun ds vs G1 H1 hds x hw1 dvs => by
    obtain ⟨d, hd1, hp⟩ := hd ds hds
    exact hp vs G1 dvs H1 Q x.gh fun v G2 H2 e2 dv => k d v _ H2 hd1 (x.trans (e2.w x.cl hw1)) (hw1.up e2.hh) (joinG_dq e2.gg dv))
/-! ### the program's defs, as the law calls them -/
section
variable {n : Str} {ss : List Stp} {E : XK}
theorem PR_goes (h : PRA t σ G [protoD C n ss]) (hs : Short ss) : PR (tCall (spGoes C CP) [] E t) σ G (optD (stopFrom 0 [] ss)) := fun H Q hq k =>
  h H _ hq fun vs G1 H1 e1 dv => by
    obtain ⟨v, rfl, d⟩ := dv.one
    exact ⟨G1, v, _, rfl, e1.gh, d, .inr ⟨n, ss, rfl, hs, fun v' G' H' e d' => k v' G' H' (e1.trans e) d'⟩⟩
theorem PR_goesK (h : PRA t σ G [protoD C n ss]) (hs : Short ss) : PR (tCallK0 1 (fun l => l) (spGoes C CP) E t) σ G (optD (stopFrom 0 [] ss)) := fun H Q hq k =>
  h H _ hq fun vs G1 H1 e1 dv => by
    obtain ⟨v, rfl, d⟩ := dv.one
    exact ⟨rfl, G1, v, _, rfl, e1.gh, d, .inr ⟨n, ss, rfl, hs, fun v' G' H' e d' => k v' G' H' (e1.trans e) d'⟩⟩
theorem sp_mends {ls : List Lay} {a : PyData} {v u : V} {Q : VK} (LP : LawP ss ls) (hA : AgentN n) (ha : LzLs a ls) (hs : Same G H) (dv : Dq G v (protoD C n ss)) (du : Dq G u a)
    (k : ∀ v' G' H', Ext G H G' H' → Dq (cut H G') v' (.list ((allMends ss (sortLs ls)).map encM)) → Q v' H') : spMends C CP CL [v, u] H Q E := by
  refine ⟨G, v, u, _, a, rfl, hs, dv, du, .inr ⟨n, ss, rfl, LP.R, hA, LP.few9, .inl (ha.sh.mono (by decide)), ha.le LP.oks, fun hp => ?_, fun ls' hl hk => ⟨fun hu => ?_, fun _ => ?_⟩⟩⟩
  · rw [plsD_of ha LP.oks] at hp; cases hp
  · rw [lzLs_inj hl ha, unlike_of LP.tl.nd] at hu; cases hu
  · rw [lzLs_inj hl ha]
    exact ⟨LP.small.sort, k⟩
theorem PRF_mends {ls : List Lay} {a : PyData} (LP : LawP ss ls) (hA : AgentN n) (ha : LzLs a ls) (h : PRA t σ G [protoD C n ss, a]) : PRF (tCall (spMends C CP CL) [] E t) σ G (.list ((allMends ss (sortLs ls)).map encM)) := fun H Q hq k =>
  h H _ hq fun vs G1 H1 e1 dv => by
    obtain ⟨v, u, rfl, d1, d2⟩ := dv.two
    exact sp_mends LP hA ha e1.gh d1 d2 fun v' G' H' e d => k v' G' H' (e1.trans e) (d.up (cut_back e1.hh))
theorem PRF_mendsK {ls : List Lay} {a : PyData} (LP : LawP ss ls) (hA : AgentN n) (ha : LzLs a ls) (h : PRA t σ G [a, protoD C n ss]) : PRF (tCallK0 2 (fun l => swap2 l) (spMends C CP CL) E t) σ G (.list ((allMends ss (sortLs ls)).map encM)) := fun H Q hq k =>
  h H _ hq fun vs G1 H1 e1 dv => by
    obtain ⟨u, v, rfl, d2, d1⟩ := dv.two
    exact ⟨rfl, sp_mends LP hA ha e1.gh d1 d2 fun v' G' H' e d => k v' G' H' (e1.trans e) (d.up (cut_back e1.hh))⟩
theorem sp_mended {m : Mnd} {a : PyData} {v u : V} {Q : VK} (hR : Right ss) (hA : AgentN n) (hW : Few 999 ss) (hf : FormM ss m) (hw : wrongFrom 0 (mendS ss m) = none) (ha : LzM a m) (hs : Same G H) (dv : Dq G v (protoD C n ss)) (du : Dq G u a)
    (k : ∀ v' G' H', Ext G H G' H' → Dq G' v' (protoD C n (mendS ss m)) → Q v' H') : spMended C CP CM [v, u] H Q E := by
  have e : byD C n ss m = protoD C n (mendS ss m) := by rw [byD, if_pos hw]
  refine ⟨G, v, u, _, a, rfl, hs, dv, du, .inr ⟨n, ss, _, rfl, hR, hA, hW, .inl (ha.sh.mono (by decide)), .inr ⟨m, hf, ha, rfl⟩, fun z => ?_, fun _ => ?_⟩⟩
  · rw [e] at z; cases z
  · rw [e]; exact k
theorem PR_mended {m : Mnd} {a : PyData} (hR : Right ss) (hA : AgentN n) (hW : Few 999 ss) (hf : FormM ss m) (hw : wrongFrom 0 (mendS ss m) = none) (ha : LzM a m) (h : PRA t σ G [protoD C n ss, a]) : PR (tCall (spMended C CP CM) [] E t) σ G (protoD C n (mendS ss m)) := fun H Q hq k =>
  h H _ hq fun vs G1 H1 e1 dv => by
    obtain ⟨v, u, rfl, d1, d2⟩ := dv.two
    exact sp_mended hR hA hW hf hw ha e1.gh d1 d2 fun v' G' H' e d => k v' G' H' (e1.trans e) d
theorem PR_mendedK {m : Mnd} {a : PyData} (hR : Right ss) (hA : AgentN n) (hW : Few 999 ss) (hf : FormM ss m) (hw : wrongFrom 0 (mendS ss m) = none) (ha : LzM a m) (h : PRA t σ G [a, protoD C n ss]) : PR (tCallK0 2 (fun l => swap2 l) (spMended C CP CM) E t) σ G (protoD C n (mendS ss m)) := fun H Q hq k =>
  h H _ hq fun vs G1 H1 e1 dv => by
    obtain ⟨u, v, rfl, d2, d1⟩ := dv.two
    exact ⟨rfl, sp_mended hR hA hW hf hw ha e1.gh d1 d2 fun v' G' H' e d => k v' G' H' (e1.trans e) d⟩
theorem no_steps (x y : V) : (fNames.zip [x, y]).lookup ("steps" : Str) = none := by
  have h1 : (("steps" : Str) == "own_name") = false := by decide +kernel
  have h2 : (("steps" : Str) == "own_steps") = false := by decide +kernel
  simp [fNames, List.lookup, h1, h2]
/-- x.steps() -/
theorem PR_stepsM (h : PR te σ G (protoD C n ss)) (hl : ss.length ≤ 1000) : PR (tMeth C "steps" (spP (DSteps C)) [] E te tNil) σ G (encSS ss) := fun H Q hq k =>
  h H _ hq fun v G1 H1 e1 dv => by
    obtain ⟨a, dx, vs, rfl, q1, q2, q3, q4⟩ := dv.insE
    obtain ⟨x, y, rfl, _, _⟩ := q4.two
    refine ⟨a, dx, _, rfl, e1.gh _ _ q1, no_steps x y, ?_⟩
    exact ⟨G1, [protoD C n ss], encSS ss, e1.gh, .cons dv .nil, ⟨n, ss, rfl, rfl, hl⟩, fun v G2 H2 e2 dv2 => k v G2 H2 (e1.trans e2) dv2⟩
end
theorem cut_no {a : Addr} {xs : List V} {o : HO} (h : G a = some (.lst xs)) (n : H a = some o) : PD.cut H G a = none := by
  unfold PD.cut
  rw [h]
  simp [n]
/-! ### the text of the layers -/
theorem shw_num {n : Nat} (h : n ≤ 9) : shw 100 (.int (n : Nat)) := by
  have : n = 0 ∨ n = 1 ∨ n = 2 ∨ n = 3 ∨ n = 4 ∨ n = 5 ∨ n = 6 ∨ n = 7 ∨ n = 8 ∨ n = 9 := by omega
  rcases this with rfl | rfl | rfl | rfl | rfl | rfl | rfl | rfl | rfl | rfl <;> exact ⟨by decide +kernel, by decide +kernel⟩
theorem shw_kd (k : Kd) : shw 100 (.str k.str) := by
  cases k <;> (show (reprText _).length ≤ 100; decide +kernel)
theorem shw_row {a : PyData} {ds : List PyData} (h : Row a ds) (k : shwL 100 ds) : shw 100 a := by
  rcases h with rfl | rfl
  · unfold shw; exact k
  · unfold shw; exact k
theorem bnd_row {a : PyData} {ds : List PyData} (h : Row a ds) : bnd 100 a = 5 + bndL 100 ds := by
  rcases h with rfl | rfl
  · unfold bnd; rfl
  · unfold bnd; rfl
theorem shw_lay {a : PyData} {l : Lay} (h : LzL a l) (ok : okLay l) : shw 100 a ∧ bnd 100 a = 209 := by
  have n9 : l.2 ≤ 9 := by rcases ok with ⟨_, h⟩ | ⟨_, h⟩ <;> omega
  refine ⟨shw_row h ?_, ?_⟩
  · unfold shwL
    refine ⟨shw_kd _, ?_⟩
    unfold shwL
    refine ⟨shw_num n9, ?_⟩
    unfold shwL
    trivial
  · rw [bnd_row h]
    simp [bndL, bnd]
theorem shw_lays {a : PyData} {ls : List Lay} (h : LzLs a ls) (ok : ∀ l ∈ ls, okLay l) : shw 100 a ∧ bnd 100 a = 5 + ls.length * 211 := by
  obtain ⟨ds, h1, h2⟩ := h
  have key : ∀ {ds : List PyData} {ls : List Lay}, All2 LzL ds ls → (∀ l ∈ ls, okLay l) → shwL 100 ds ∧ bndL 100 ds = ls.length * 211 := fun {ds ls} h ok => by
    induction h with
    | nil => exact ⟨by unfold shwL; trivial, by simp [bndL]⟩
    | cons h t ih =>
      obtain ⟨q1, q2⟩ := shw_lay h (ok _ (List.mem_cons_self ..))
      obtain ⟨q3, q4⟩ := ih fun l hl => ok l (List.mem_cons_of_mem _ hl)
      refine ⟨by unfold shwL; exact ⟨q1, q3⟩, ?_⟩
      unfold bndL
      rw [q2, q4, List.length_cons]; omega
  obtain ⟨q1, q2⟩ := key h2 ok
  exact ⟨shw_row h1 q1, by rw [bnd_row h1, q2]⟩
theorem PR_repr {A : Around} {i : Nat} {v : V} {txt : Str} (hσ : σ[i]? = some (some v)) (h : ∀ H, Same G H → RepV P w A H v txt) : PR (tCB (rRepr P w A) (tCons (tVar i) tNil)) σ G (.str txt) := fun H Q hs k => ⟨v, hσ, v, txt, rfl, h H hs, k _ G H (.refl hs) (.str _)⟩
theorem tSetF_use {i : Nat} {De : Ends} {d : PyData} (hs : Same G H) (h : PRF te σ G d) (k : ∀ v G' H', Ext G H G' H' → Dq (cut H G') v d → De.nx (σ.set i (some v)) H') : tAsg te (gName i) De σ H := h H _ hs k
theorem tSetQ_use {i : Nat} {De : Ends} (h : te σ H fun v H' => De.nx (σ.set i (some v)) H') : tAsg te (gName i) De σ H := h
theorem tPar3_use {i j l : Nat} {De : Ends} {d1 d2 d3 : PyData} (hs : Same G H) (h : PRA t σ G [d1, d2, d3]) (k : ∀ u v x G' H', Ext G H G' H' → Dq G' u d1 → Dq G' v d2 → Dq G' x d3 → De.nx (((σ.set i (some u)).set j (some v)).set l (some x)) H') : tPar3 i j l t De σ H :=
  h H _ hs fun vs G' H' e dv => by
    cases dv with
    | cons a b =>
      obtain ⟨v, x, rfl, c, d⟩ := b.two
      exact ⟨_, _, _, rfl, k _ _ _ G' H' e a c d⟩
theorem tDrop1_use {sp : Sp} {E : XK} {i : Nat} {De : Ends} {v : V} (hσ : σ[i]? = some (some v)) (h : sp [v] H (fun _ H1 => De.nx σ H1) E) : tDrop (tCall sp [] E (tCons (tVar i) tNil)) De σ H := ⟨_, hσ, h⟩
end
end K50
set_option Elab.async false
set_option linter.all false
set_option maxRecDepth 100000
set_option maxHeartbeats 8000000
/-! K51f: _law_protocol_right -/
namespace K50
open PySem PySem.Spec PyProof.Rows L2 PD StX RZ NdefX LamX
section
variable {P : Program} {w : World} {K : PySem.W.Frag} {mg : Str → Option Value} {base : Heap} {G H G' H' : Hp} {C CP CL CM : Addr} {t : Tb}
abbrev nPR : List Str := ["_law_stream_here", "_law_name", "_law_steps", "_law_layers", "_law_made", "_law_handed", "_law_due", "_law_was", "_law_stop_here", "_law_told", "_law_mend", "_law_other", "_law_found", "_law_one", "_law_thing"]
theorem scPR : FnScope nPR ["_law_stream_here", "_law_name", "_law_steps", "_law_layers"] (defScope sPR) := ⟨rfl, rfl, rfl, by decide +kernel, rfl, by decide +kernel, by decide +kernel⟩
abbrev qPR : Str := "_law_protocol_right" ++ ".<locals>." ++ "<lambda>"
theorem own_pr {X : Cx} {sc : Scope} {fr : List Str} {js : List Nat} (h1 : ndefB (defScope sPR) sc fr = true) (h2 : fr.all (fun y => sc.names.contains (y, NameKind.free)) = true) (h3 : js.map (fun j => nPR[j]?) = fr.map some) (hN : X.N = nPR := by rfl) (hS : X.env.scope = defScope sPR := by rfl) (hfn : ∀ y, X.fn y = true := by intro _; rfl) : Own X (cloFrom X.env.cells sc.names []) fr js :=
  own_made (by rw [hS]; exact ndef_free (fr := fr) h1) (fun y hy => by have := List.all_eq_true.mp h2 y hy; simpa using this) (by rw [hN]; exact h3) hfn
/-- Proto's own == and steps() -/
structure ProtoM (P : Program) (w : World) (K : PySem.W.Frag) (mg : Str → Option Value) (base : Heap) (C : Addr) : Prop where
  T : TProto K mg C
  M : MkP P w K mg base C
  E : ∃ f fd, PySem.W.findIn K (.ref C) "__eq__" = some (some (.ref f)) ∧ PySem.W.isFn K (.ref f) = true ∧ Binds K fd ["self", "other"] [] ∧ FnOk P w K mg base CX0 1 f fd ["self", "other"] (spP (DEq C))
  S : ∃ f fd, Meth K C "steps" f ∧ Binds K fd ["self"] [] ∧ FnOk P w K mg base CX0 1 f fd ["self"] (spP (DSteps C))
def prPR (ds : List PyData) : Prop := ∃ n ss ls, ds = [.str n, encSS ss, .list (ls.map encL)] ∧ LawP ss ls ∧ AgentN n
theorem pass_no {X : Cx} : Passes (L2.CX X.prog X.w) X (fun _ _ _ => False) := fun _ _ _ _ _ _ _ c => (cx_no c).elim
def DTrue (_ : List PyData) (d : PyData) : Prop := d = .bool true
abbrev FMet (P : Program) (w : World) (K : PySem.W.Frag) (mg : Str → Option Value) (base : Heap) (CP CL CM : Addr) : Prop := Fn P w K mg base CX0 "_law_met" 14 1 (spMet P w K mg base CP CL CM 13)
abbrev FPR (P : Program) (w : World) (K : PySem.W.Frag) (mg : Str → Option Value) (base : Heap) (t : Tb) : Prop := Fn P w K mg base CX0 "_law_protocol_right" 15 4 (spS t (fun _ => 1000000) prPR DTrue)
theorem fn_pr {c Tt : Addr} (D : DfC K mg "_law_protocol_right" sPR c) (M : MkT t base mg c Tt [qPR]) (PM : ProtoM P w K mg base C)
    (FL : Fn P w K mg base CX0 "_law_loose" 6 2 (spS t cLoose (prLoose 4) DLoose)) (FS : Fn P w K mg base CX0 "_law_same" 7 2 (spP (DSame C 5))) (FSp : Fn P w K mg base CX0 "_law_spoilt" 4 1 (spSpoil 3))
    (FA : FAllL P w K mg base) (FSt : FStopL P w K mg base) (FG : FGoes P w K mg base C CP) (FMs : FMends P w K mg base C CP CL) (FMd : FMended P w K mg base C CP CM) (FN : FNear P w K mg base t)
    (FIM : FIsMend P w K mg base) (FML : FMendL P w K mg base) (FMt : FMet P w K mg base CP CL CM) (m1 : mg "repr" = none) (m2 : mg "all" = none) (m3 : mg "tuple" = none) : FPR P w K mg base t := by
  obtain ⟨T, ⟨fi, fdi, hM, hB, hI⟩, hE, ⟨fs, fds, hSm, hSb, hSf⟩⟩ := PM
  refine D.fnG scPR (by rintro vs H Q E ⟨W, G, ds, n, us, ht, rfl, hG, hcl, hw, hl, hd, ⟨nm, ss, ls, rfl, _⟩, kq⟩; have := hd.len; simp at this; simp [this]) rfl (fun _ _ _ _ _ _ us hl => match us, hl with | [_, _, _, _], _ => rfl) fun f A g outer s H vs Q E hr0 hsp => ?_
  obtain ⟨W, G, ds, n, us, rfl, rfl, hG, hcl, hw, hl, hd, ⟨nm, ss, ls, rfl, LP, hA⟩, kq⟩ := hsp
  have hr : Room 14 (withG (A.deeper (envOfC "_law_protocol_right" (defScope sPR) s.heap.objs.size f (.ref c))) g) := ⟨hr0.hd, hr0.dp, hr0.un⟩
  have hsz : sizeLine = 16777216 := sizeLine_eq
  refine ⟨_, pss_cons (ps_asg (pe_tup (pa_cons (pe_make hM hI (hr.mono (by decide)) (by rfl) T.gl hB .nil pass0 (pa_cons (pv 1) (pa_cons (pe_fn FL (hr.mono (by decide)) (by rfl) pass0 (pa_cons (pv 0) (pa_cons (pv 2) pa_nil))) pa_nil))) (pa_cons (pe_fn FL (hr.mono (by decide)) (by rfl) pass0 (pa_cons (pv 0) (pa_cons (pv 3) pa_nil))) pa_nil)))
      (pg_tup rfl (pgs_cons (pg_name (i := 4) scPR.nd rfl (.inr rfl)) (pgs_cons (pg_name (i := 5) scPR.nd rfl (.inl rfl)) pgs_nil))))
    (pss_cons (ps_par3 (i := 6) (j := 7) (l := 8) (by rfl) scPR.nd rfl rfl rfl (by decide) (by decide) (by decide) rfl rfl rfl (pa_cons (pe_fn FA (hr.mono (by decide)) (by rfl) pass0 (pa_cons (pv 2) (pa_cons (pv 3) pa_nil))) (pa_cons (pe_callB cr_repr (by rfl) m1 (by decide +kernel) (pa_cons (pv 5) pa_nil)) (pa_cons (pe_fn FSt (hr.mono (by decide)) (by rfl) pass0 (pa_cons (pv 2) pa_nil)) pa_nil))) (by rfl))
    (pss_cons (ps_if (pt_not (pt_val (pe_fn FS (hr.mono (by decide)) (by rfl) pass0 (pa_cons (pe_lst (pa_cons (pe_fn FG.fn (hr.mono (by decide)) (by rfl) pass_no (pa_cons (pv 4) pa_nil)) (pa_cons (pe_fnK0 FG (hr.mono (by decide)) pass_no (pk_cons (pv 4) pk_nil)) pa_nil))) (pa_cons (pe_lst (pa_cons (pv 8) (pa_cons (pv 8) pa_nil))) pa_nil))))) (pss_one (ps_ret pe_bl)) pss_nil)
    (pss_cons (ps_set (i := 9) scPR.nd rfl (.inl rfl) (pe_fn FMs.fn (hr.mono (by decide)) (by rfl) pass_no (pa_cons (pv 4) (pa_cons (pv 5) pa_nil))))
    (pss_cons (ps_if (PW.pt (pw_or (pt_not (pt_val (pe_fn FS (hr.mono (by decide)) (by rfl) pass0 (pa_cons (pv 9) (pa_cons
        (pe_lc (own := [("_law_mend", 10), ("_law_other", 11)]) (g := gTup K 2 (gCons (gName 10) (gCons (gName 11) gNil))) (tt := tYes) rfl scPR.nd (xi_list (K := K) (pv 6)) (blkOk_by (N := nPR) (sc := defScope sPR) (by decide +kernel)) (fun _ _ _ _ _ => pg_tup rfl (pgs_cons (pg_name (i := 10) scPR.nd rfl (.inl rfl)) (pgs_cons (pg_name (i := 11) scPR.nd rfl (.inl rfl)) pgs_nil))) (fun _ _ _ _ _ => pts_nil) (fun _ _ _ _ _ => pv 10)) pa_nil)))))
        (pw_or1 (pt_cmpR op_ne (pe_callB cr_repr (by rfl) m1 (by decide +kernel) (pa_cons (pv 5) pa_nil)) (pv 7) (nomark _))))) (pss_one (ps_ret pe_bl)) pss_nil)
    (pss_cons (ps_expr (pe_fn FSp (hr.mono (by decide)) (by rfl) pass0 (pa_cons (pv 9) pa_nil)) (by rfl))
    (pss_cons (ps_if (pt_not (pt_val (pe_fn FS (hr.mono (by decide)) (by rfl) pass0 (pa_cons (pe_fnK0 FMs (hr.mono (by decide)) pass_no (pk_cons (pv 3) (pk_cons (pv 4) pk_nil))) (pa_cons
        (pe_lc (own := [("_law_mend", 10), ("_law_other", 11)]) (g := gTup K 2 (gCons (gName 10) (gCons (gName 11) gNil))) (tt := tYes) rfl scPR.nd (xi_list (K := K) (pv 6)) (blkOk_by (N := nPR) (sc := defScope sPR) (by decide +kernel)) (fun _ _ _ _ _ => pg_tup rfl (pgs_cons (pg_name (i := 10) scPR.nd rfl (.inl rfl)) (pgs_cons (pg_name (i := 11) scPR.nd rfl (.inl rfl)) pgs_nil))) (fun _ _ _ _ _ => pts_nil) (fun _ _ _ _ _ => pv 10)) pa_nil))))) (pss_one (ps_ret pe_bl)) pss_nil)
    (pss_cons (ps_for PassesOwn.never rfl (xi_list (K := K) (pv 6)) (pg_tup rfl (pgs_cons (pg_name (i := 10) scPR.nd rfl (.inl rfl)) (pgs_cons (pg_name (i := 11) scPR.nd rfl (.inr rfl)) pgs_nil)))
      (pss_cons (ps_set (i := 12) scPR.nd rfl (.inl rfl) (pe_lst (pa_cons (pe_fn FMd.fn (hr.mono (by decide)) (by rfl) pass_no (pa_cons (pv 4) (pa_cons (pe_fn FL (hr.mono (by decide)) (by rfl) pass0 (pa_cons (pv 0) (pa_cons (pv 10) pa_nil))) pa_nil))) (pa_cons (pe_fnK0 FMd (hr.mono (by decide)) pass_no (pk_cons (pv 10) (pk_cons (pv 4) pk_nil))) pa_nil))))
      (pss_cons (ps_if (PW.pt (pw_or (pt_not (pt_val (xe_all (K := K) m2 (xe_lc1 (tt := tYes) nPR (defScope sPR) 13 (xi_list (K := K) (pv 12)) (by decide +kernel) scPR.nd (.inr rfl) (fun _ _ _ _ _ => pts_nil)
          (fun _ _ _ _ _ => pe_cmpR (op_eqI (C := C) (D := DEq C) ⟨let ⟨f, fd, h1, h2, h3, h4⟩ := hE; ⟨f, fd, _, h1, h2, h3, h4⟩, by rintro ds d ⟨n, ss, m, ts, rfl, _⟩; rfl⟩ (hr.mono (by decide))) (pv 13) (pe_make hM hI (hr.mono (by decide)) (by rfl) T.gl hB .nil pass0 (pa_cons (pv 1) (pa_cons (pv 11) pa_nil))) (nomark _))))))
          (pw_or1 (pt_not (pt_val (pe_fn FS (hr.mono (by decide)) (by rfl) pass0 (pa_cons (pe_meth0 (xe_ixL (K := K) (pv 12) pe_int) T.cl.cl hSm hSf (hr.mono (by decide)) hSb .nil pass0) (pa_cons (pv 11) pa_nil)))))))) (pss_one (ps_ret pe_bl)) pss_nil)
      (pss_one (ps_if (PW.pt (pw_and (pt_cmpR op_isN (pv 8) pe_non (nomark _)) (pw_and1 (pt_cmpR op_notN (pe_fn FG.fn (hr.mono (by decide)) (by rfl) pass_no (pa_cons (xe_ixL (K := K) (pv 12) pe_int) pa_nil)) pe_non (nomark _))))) (pss_one (ps_ret pe_bl)) pss_nil)))))
    (pss_cons (ps_for PassesOwn.never rfl (xi_list (K := K) (pe_fn FN (hr.mono (by decide)) (by rfl) pass0 (pa_cons (pv 0) (pa_cons (pv 2) (pa_cons
        (pe_lc (own := [("_law_mend", 10), ("_law_other", 11)]) (g := gTup K 2 (gCons (gName 10) (gCons (gName 11) gNil))) (tt := tYes) rfl scPR.nd (xi_list (K := K) (pv 6)) (blkOk_by (N := nPR) (sc := defScope sPR) (by decide +kernel)) (fun _ _ _ _ _ => pg_tup rfl (pgs_cons (pg_name (i := 10) scPR.nd rfl (.inl rfl)) (pgs_cons (pg_name (i := 11) scPR.nd rfl (.inl rfl)) pgs_nil))) (fun _ _ _ _ _ => pts_nil) (fun _ _ _ _ _ => pv 10)) pa_nil))))) (pg_name (i := 14) scPR.nd rfl (.inr rfl))
      (pss_cons (ps_set (i := 12) scPR.nd rfl (.inl rfl) (pe_fnT (own_pr (sc := compSc eM) (fr := ["_law_made", "_law_thing"]) (js := [4, 14]) (by decide +kernel) (by decide +kernel) rfl) FMt hr (fun s H e s' h => h) (pa_cons (pe_lambB (Z := W.t.Z) (T := Tt) (qs := []) M.tb rfl (ndef_free (sc := defScope sPR) (nsc := compSc eM) (fr := ["_law_made", "_law_thing"]) (by decide +kernel)) rfl) pa_nil) spm_len))
      (pss_one (ps_if (pt_not (pt_val (pe_fn FIM (hr.mono (by decide)) (by rfl) pass0 (pa_cons (pv 2) (pa_cons (pv 14) pa_nil)))))
        (pss_one (ps_if (pt_not (pt_val (pe_fn FS (hr.mono (by decide)) (by rfl) pass0 (pa_cons (pv 12) (pa_cons (pe_tup (pa_cons pe_str (pa_cons (pv 14) pa_nil))) pa_nil))))) (pss_one (ps_ret pe_bl)) pss_nil))
        (pss_one (ps_if (PW.pt (pw_or (pt_cmpR op_ne (xe_ixT (K := K) (pv 12) pe_int) pe_str (nomark _)) (pw_or1 (pt_not (pt_val (pe_fn FS (hr.mono (by decide)) (by rfl) pass0 (pa_cons (pe_meth0 (xe_ixT (K := K) (pv 12) pe_int) T.cl.cl hSm hSf (hr.mono (by decide)) hSb .nil pass0) (pa_cons (pe_fn FML (hr.mono (by decide)) (by rfl) pass0 (pa_cons (pv 2) (pa_cons (xe_tuple (K := K) m3 (pv 14)) pa_nil))) pa_nil)))))))) (pss_one (ps_ret pe_bl)) pss_nil))))))
    (pss_one (ps_ret (pe_cmpR (op_eqI (C := C) (D := DEq C) ⟨let ⟨f, fd, h1, h2, h3, h4⟩ := hE; ⟨f, fd, _, h1, h2, h3, h4⟩, by rintro ds d ⟨n, ss, m, ts, rfl, _⟩; rfl⟩ (hr.mono (by decide))) (pv 4) (pe_make hM hI (hr.mono (by decide)) (by rfl) T.gl hB .nil pass0 (pa_cons (pv 1) (pa_cons (pv 2) pa_nil))) (nomark _)))))))))))), ?_⟩
  have hl : n + 1000000 ≤ lim := hl
  cases hd with
  | @cons u1 _ _ _ d1 hd =>
  cases d1
  obtain ⟨u2, u3, rfl, d2, d3⟩ := hd.two
  have hR := LP.R
  have hf9 := LP.few9
  have ok9 := LP.oks
  have h4 : nearB 4 (encSS ss) = true := nearB_steps (by decide) LP.few (by have := LP.len; omega)
  have loose : ∀ {σ : L2.St} {G' : Hp} {i : Nat} {a : PyData}, nearB 4 a = true → nodes a ≤ 100 → σ[0]? = some (some (.ref W.st)) → PR (tVar i) σ G' a → PN W (tCall (spS W.t cLoose (prLoose 4) DLoose) [] E0 (tCons (tVar 0) (tCons (tVar i) tNil))) σ G' 100 (fun d => Lz a d) := fun {σ G' i a} q1 q2 q3 q4 =>
    (PN_callS (c2 := 100) (DS := (· = [a])) q3 (PNA_of (PRA_one q4)) fun ds e => by
      subst e
      refine ⟨⟨a, rfl, nearB_flat 4 a q1⟩, q2, fun d ⟨a', e, z⟩ => ?_⟩
      simp only [List.cons.injEq, and_true] at e
      subst e
      exact z).imp (by omega) fun _ h => h
  -- _law_made, _law_handed
  have key0 : PN W (tTup (tCons (tMake C (spInit C) [] E0 (tCons (tVar 1) (tCons (tCall (spS W.t cLoose (prLoose 4) DLoose) [] E0 (tCons (tVar 0) (tCons (tVar 2) tNil))) tNil))) (tCons (tCall (spS W.t cLoose (prLoose 4) DLoose) [] E0 (tCons (tVar 0) (tCons (tVar 3) tNil))) tNil)))
      [some (.ref W.st), some (.str nm), some u2, some u3, none, none, none, none, none, none, none, none, none, none, none] G 200 (fun d => ∃ a, d = .tuple [protoD C nm ss, a] ∧ LzLs a ls) := by
    refine (PN_tup (PNA_cons (c1 := 0 + (100 + 0)) (D := (· = protoD C nm ss)) (PN_via (F := fun t => tMake C (spInit C) [] E0 t) (fun H Q h => h) (PNA_cons (PN_of (PV (i := 1) (.str nm))) (PNA_cons (loose h4 (Nat.le_trans (nodes_steps LP.few LP.len) (by decide)) rfl (PV (i := 2) d2)) PNA_nil)) fun ds ⟨a, as, e1, e2, b, bs, e3, hb, e4⟩ => ?_)
      (PNA_cons (D := fun d => LzLs d ls) ((loose (i := 3) (nearB_lays4 LP) (Nat.le_trans (nodes_lays LP.tl.len) (by decide)) rfl (PV (i := 3) d3)).imp (Nat.le_refl _) fun d h => lz_lays h) PNA_nil)) fun ds ⟨a, as, e1, e2, b, bs, e3, hb, e4⟩ => ?_).imp (by omega) fun _ h => h
    · subst e1 e2 e3 e4
      exact ⟨_, rfl, fun vs G1 dvs => PR_make (PRA_tK dvs) (lz_steps hb) hR hA⟩
    · subst e1 e2 e3 e4
      exact ⟨by show 2 ≤ sizeLine; omega, b, rfl, hb⟩
  refine tAsg_useN key0 hG hcl hw (by omega) fun d v0 G1 H1 ⟨a, e, ha⟩ x1 w1 dv0 => ?_
  subst e
  refine gp2 v0 G1 H1 _ dv0 x1.gh fun σ' ⟨vm, vh, dm, dh, eσ⟩ => ?_
  subst eσ
  have d2_1 := d2.up x1.gg
  have d3_1 := d3.up x1.gg
  -- the text of what is handed
  obtain ⟨hsh, hbn⟩ := shw_lays ha LP.tl.ok
  obtain ⟨txt, htx, htl⟩ := tx_ex (g := g) a vh dh hsh
  have hsq : ∃ ds, a = .list ds ∨ a = .tuple ds := let ⟨ds, h, _⟩ := ha; ⟨ds, h⟩
  have rep : ∀ {G' : Hp}, Same G1 G' → ∀ H', Same G' H' → RepV P w (withG (A.deeper (envOfC "_law_protocol_right" (defScope sPR) s.heap.objs.size f (.ref c))) g) H' vh txt := fun g1 H' h =>
    repV (g := g) rfl (by have := hr.un; omega) (Nat.le_trans ha.sh.2 (by decide)) hsq dh htx hsh (by have := LP.tl.len; omega) (g1.trans h)
  -- _law_due, _law_was, _law_stop_here
  refine tPar3_use x1.gh (PRA_cons (PR_call (D := DAllL) (PRA_two (PV (i := 2) d2_1) (PV (i := 3) d3_1)) ⟨ss, ls, rfl, rfl, hR, hf9, ok9, LP.small⟩) (PRA_two (PR_repr rfl (rep (Same.refl _))) (PR_call (D := DStopL) (PRA_one (PV (i := 2) d2_1)) ⟨ss, rfl, rfl, hR.short⟩))) fun vd vt vs8 G2 H2 e2 dd dt ds8 => ?_
  cases dt
  generalize hms : allMends ss (sortLs ls) = ms at dd
  have x2 := e2.w x1.cl w1
  have w2 := w1.up e2.hh
  have dd2 := joinG_dq e2.gg dd
  have ds2 := joinG_dq e2.gg ds8
  have sj : Same G1 (joinG G1 G2) := joinG_same
  have dm2 := dm.up sj
  have dh2 := dh.up sj
  have d2_2 := d2_1.up sj
  have d3_2 := d3_1.up sj
  generalize joinG G1 G2 = Gx at x2 dd2 ds2 sj dm2 dh2 d2_2 d3_2
  have memb : ∀ m ∈ ms, FormM ss m ∧ wrongFrom 0 (mendS ss m) = none := fun m hm => LP.mem (by rw [hms]; exact hm)
  have goes : ∀ m ∈ ms, stopFrom 0 [] ss = none → stopFrom 0 [] (mendS ss m) = none := fun m hm => LP.goes (by rw [hms]; exact hm)
  have mlen : ms.length ≤ 500 := by rw [← hms]; exact LP.num
  -- the same answers
  have rel1 : ∀ o : Option Nat, Rel C 5 (.list [optD o, optD o]) := fun o => (nearB_rel C 1 _ (by cases o <;> rfl)).mono (by decide)
  refine tIf_use (b := !true) (TR_not (TR_tB (PR_call (D := DSame C 5) (PRA_two (PR_lst (PRA_two (PR_goes (PRA_one (PV (σ := [some (.ref W.st), some (.str nm), some u2, some u3, some vm, some vh, some vd, some (.str txt), some vs8, none, none, none, none, none, none]) (i := 4) dm2)) hR.short) (PR_goesK (PRA_one (PV (i := 4) dm2)) hR.short)) (by show 2 ≤ sizeLine; omega)) (PR_lst (PRA_two (PV (i := 8) ds2) (PV (i := 8) ds2)) (by show 2 ≤ sizeLine; omega))) ⟨_, rfl, rfl, rel1 _⟩))) x2.gh fun H3 e3 => iteF (nxt ?_)
  have x3 := x2.trans (extW_same x2.gh x2.cl e3)
  have w3 := w2.up e3
  -- _law_told
  refine tSetF_use x3.gh (PRF_mends LP hA ha (PRA_two (PV (i := 4) dm2) (PV (i := 5) dh2))) fun v9 G5 H5 e5 d9 => ?_
  rw [hms] at d9
  have compr : ∀ {σ : L2.St} {G' : Hp}, Same Gx G' → σ[6]? = some (some vd) → (∀ v u : V, wipe (((wipe σ [10, 11]).set 10 (some v)).set 11 (some u)) [10, 11] = wipe σ [10, 11]) → (∀ v u : V, (((wipe σ [10, 11]).set 10 (some v)).set 11 (some u))[10]? = some (some v)) → PR (tLc (iList K (tVar 6)) (gTup K 2 (gCons (gName 10) (gCons (gName 11) gNil))) tYes (tVar 10) [10, 11]) σ G' (.list (ms.map encM)) := fun {σ G'} g h6 q1 q2 =>
    PR_map2 (K := K) (i := 10) (j := 11) (bs := ms) (enc := pairL ss) (e1 := encM) (e2 := fun m => encSS (mendS ss m)) (fun _ _ => rfl) (WR_list (PR_var h6 (dd2.up g))) q1 (fun G1 b v u _ _ dv _ => PR_var (q2 v u) dv) (by omega)
  have relM : Rel C 5 (.list (ms.map encM)) := (nearB_rel C 3 _ (nearB_list (fun d hd => by
    obtain ⟨m, _, rfl⟩ := List.mem_map.mp hd
    exact nearB_mend m) (by rw [List.length_map]; omega))).mono (by decide)
  refine tIf_use (b := !true || decide (txt ≠ txt)) (TR_or (TR_not (TR_tB (PR_call (D := DSame C 5) (PRA_two (PV (σ := [some (.ref W.st), some (.str nm), some u2, some u3, some vm, some vh, some vd, some (.str txt), some vs8, some v9, none, none, none, none, none]) (i := 9) (d9.up cut_sub)) (compr e5.gg rfl (fun _ _ => rfl) fun _ _ => rfl)) ⟨_, rfl, rfl, relM⟩))) fun _ => TR_test (PR_op RR2_neS (PR_repr rfl (rep (sj.trans e5.gg))) (PV (i := 7) (.str txt)))) e5.gh fun H6 e6 => ?_
  rw [show (!true || decide (txt ≠ txt)) = false by simp]
  refine iteF (nxt ?_)
  -- spoilt
  cases d9 with
  | @lst pa xs _ hpa hall =>
  have na : H3 pa = none := cut_new hpa
  have ga : Gx pa = none := x3.gh.free na
  have h6a : H6 pa = some (.lst xs) := e6 _ _ (e5.gh _ _ (cut_sub _ _ hpa))
  have nl : noListL (ms.map encM) = true := noListL_of fun d hd => by
    obtain ⟨m, _, rfl⟩ := List.mem_map.mp hd
    exact encM_noList m
  refine tDrop1_use rfl (.inr ⟨cut H6 (cut H3 G5), pa, xs, ms.map encM, rfl, cut_sub.trans (cut_sub.trans (e5.gh.trans e6)), ?_, h6a, DqAll.cut _ _ hall nl, ⟨2, rfl, fun d hd => ?_⟩, ?_, fun H7 q1 q2 => ?_⟩)
  · exact cut_no hpa h6a
  · obtain ⟨m, _, rfl⟩ := List.mem_map.mp hd
    have key : ∀ l : Lay, Tup 1 (encL l) := fun l => .tup fun d hd => by
      simp only [List.mem_cons, List.not_mem_nil, or_false] at hd
      rcases hd with rfl | rfl <;> exact .leaf rfl rfl
    cases m with
    | add i p l =>
      refine .tup fun d hd => ?_
      simp only [List.mem_cons, List.not_mem_nil, or_false] at hd
      rcases hd with rfl | rfl | rfl | rfl
      · exact .leaf rfl rfl
      · exact .leaf rfl rfl
      · exact .leaf rfl rfl
      · exact key l
    | shift i p t =>
      refine .tup fun d hd => ?_
      simp only [List.mem_cons, List.not_mem_nil, or_false] at hd
      rcases hd with rfl | rfl | rfl | rfl <;> exact .leaf rfl rfl
  · have := hall.len
    rw [List.length_map] at this
    omega
  have s36 : Same H3 H6 := e5.hh.trans e6
  have s37 : Same H3 H7 := fun b o e => q1 b o (fun z => by rw [z, na] at e; cases e) (s36 _ _ e)
  have dom7 : ∀ b, H7 b = none → H3 b = none := fun b e => by
    cases z : H3 b with
    | none => rfl
    | some o => rw [s37 _ _ z] at e; cases e
  have x7 : ExtW W G H Gx H7 := (x1.trans x3).trans ⟨fun b o e _ => s37 _ _ e, dom7, Same.refl _, x3.gh.trans s37, fun b h => .inl h, x3.cl⟩
  have w7 := w3.up s37
  -- told again
  refine tIf_use (b := !true) (TR_not (TR_tB (PR_call (D := DSame C 5) (PRA_two ((PRF_mendsK LP hA (lzLs_enc ls) (PRA_two (PV (σ := [some (.ref W.st), some (.str nm), some u2, some u3, some vm, some vh, some vd, some (.str txt), some vs8, some (.ref pa), none, none, none, none, none]) (i := 3) d3_2) (PV (i := 4) dm2))).pr.eq (by rw [hms])) (compr (Same.refl _) rfl (fun _ _ => rfl) fun _ _ => rfl)) ⟨_, rfl, rfl, relM⟩))) x7.gh fun H8 e8 => iteF (nxt ?_)
  have x8 := x7.trans (extW_same x7.gh x7.cl e8)
  have w8 := w7.up e8
  -- each mend
  have T2 : 2 ≤ sizeLine := by omega
  refine tForN_use (DL := (· = ms.map (pairL ss))) x8.gh x8.cl w8 (c := 0) (by omega) (WN_list (D := (· = .list (ms.map (pairL ss)))) (PN_of (PV (i := 6) dd2)) fun d hd => ⟨_, hd, rfl⟩) fun ds J G9 H9 hds x9 w9 dw => ?_
  subst hds
  refine for_pt dw (fun j σ H' => ∃ (G' : Hp) (x10 x11 x12 : Option V), σ = [some (.ref W.st), some (.str nm), some u2, some u3, some vm, some vh, some vd, some (.str txt), some vs8, some (.ref pa), x10, x11, x12, none, none] ∧ ExtW W G H G' H' ∧ WOk W (n + 200 + 0 + 100 * j) H' ∧ Same G9 G') ⟨G9, none, none, none, rfl, x8.trans x9, by simpa using w9, Same.refl _⟩ ?_ ?_ ?_
  · rintro j σ H' _ ⟨G', x10, x11, x12, _, x, _, s'⟩
    exact s'.trans x.gh
  · rintro j d x σ H10 H11 hd ⟨G10, x10, x11, x12, rfl, xx, w10, s10⟩ e11 y
    obtain ⟨m, hm1, rfl⟩ := get_map hd
    have hj : j < 500 := by have := (List.getElem?_eq_some_iff.mp hm1).1; omega
    obtain ⟨hF, hWr⟩ := memb m (List.mem_of_getElem? hm1)
    have hgo := goes m (List.mem_of_getElem? hm1)
    obtain ⟨G11, x11', w11, dx⟩ := yldW xx.gh xx.cl w10 s10 y
    refine gp2 x G11 H11 _ dx x11'.gh fun σ' ⟨v10, v11, d10, d11, eσ⟩ => ?_
    subst eσ
    have sx : Same Gx G11 := (x9.gg.trans s10).trans x11'.gg
    have dm11 := dm2.up sx
    have ds11 := ds2.up sx
    have hmR := mend_right hR hf9 hF hWr
    have hmF : Few 4 (mendS ss m) := mendS_few hF LP.few
    -- _law_found
    refine tSetN_use (c := 100) (D := (· = .list [protoD C nm (mendS ss m), protoD C nm (mendS ss m)])) x11'.gh x11'.cl w11 (by omega) ((PN_lst (PNA_cons (c1 := 0 + (100 + 0)) (D := (· = protoD C nm (mendS ss m))) (PN_via (F := fun t => tCall (spMended C CP CM) [] (fun _ _ _ => False) t) (fun H Q h => h) (PNA_cons (PN_of (PV (i := 4) dm11)) (PNA_cons (loose (a := encM m) ((nearB_rise (nearB_mend m) : nearB 4 (encM m) = true)) (Nat.le_trans (nodes_mend m) (by decide)) rfl (PV (i := 10) d10)) PNA_nil)) fun ds ⟨a, as, e1, e2, b, bs, e3, hb, e4⟩ => ?_)
      (PNA_cons (PN_of (PR_mendedK hR hA hf9 hF hWr (lzM_enc m) (PRA_two (PV (i := 10) d10) (PV (i := 4) dm11)))) PNA_nil)) fun ds ⟨a, as, e1, e2, b, bs, e3, e4, e5⟩ => ?_).imp (by omega) fun _ h => h) fun d12 v12 G12 H12 hd12 x12' w12 dv12 => ?_
    · subst e1 e2 e3 e4
      exact ⟨_, rfl, fun vs G1 dvs => PR_mended hR hA hf9 hF hWr (lz_mend hb) (PRA_tK dvs)⟩
    · subst e1 e2 e3 e4 e5
      exact ⟨T2, rfl⟩
    subst hd12
    have dm12 := dm11.up x12'.gg
    have d11' := d11.up x12'.gg
    have ds12 := ds11.up x12'.gg
    have first : ∀ {σ : L2.St} {G' : Hp}, Same G12 G' → σ[12]? = some (some v12) → PR (tOp (rIxL K) (tVar 12) (tC (.int 0))) σ G' (protoD C nm (mendS ss m)) := fun g h => PR_op (RR2_ixL (j := 0) rfl) (PR_var h (dv12.up g)) PR_int
    refine tIf_use (b := !([protoD C nm (mendS ss m), protoD C nm (mendS ss m)].all fun _ => true) || !true) (TR_or (TR_not (TR_tB (PR_all (q := fun _ => true) (PR_map1 (bs := [protoD C nm (mendS ss m), protoD C nm (mendS ss m)]) (enc := fun b => b) (WR_list (PV (σ := [some (.ref W.st), some (.str nm), some u2, some u3, some vm, some vh, some vd, some (.str txt), some vs8, some (.ref pa), some v10, some v11, some v12, none, none]) (i := 12) dv12)) (fun _ => rfl) (fun G1 b v gg hb dv => ?_) T2))))
      fun _ => TR_not (TR_tB (PR_call (D := DSame C 5) (PRA_two (PR_stepsM (first (Same.refl _) rfl) hmR.len) (PV (i := 11) d11')) ⟨_, rfl, rfl, (nearB_rel C 4 _ (nearB_steps (by decide) hmF hmR.len)).mono (by decide)⟩))) x12'.gh fun H13 e13 => ?_
    · have hb : b = protoD C nm (mendS ss m) := by
        simp only [List.mem_cons, List.not_mem_nil, or_false] at hb
        rcases hb with rfl | rfl <;> rfl
      subst hb
      exact PR_op (RR2_eqOwn ⟨nm, mendS ss m, nm, mendS ss m, rfl, by simp⟩) (PV (i := 13) dv) (PR_make (PRA_two (PV (i := 1) (.str nm)) (PV (i := 11) (d11'.up gg))) (lzSS_enc _) hmR hA)
    refine iteF (nxt ?_)
    have x13 := x12'.trans (extW_same x12'.gh x12'.cl e13)
    have w13 := w12.up e13
    refine tIf_use (b := PD.isNon (optD (stopFrom 0 [] ss)) && !PD.isNon (optD (stopFrom 0 [] (mendS ss m)))) (TR_and (TR_test (PR_op RR2_isN (PV (σ := [some (.ref W.st), some (.str nm), some u2, some u3, some vm, some vh, some vd, some (.str txt), some vs8, some (.ref pa), some v10, some v11, some v12, none, none]) (i := 8) ds12) PR_non)) fun _ => TR_test (PR_op RR2_notN (PR_goes (PRA_one (first (Same.refl _) rfl)) hmR.short) PR_non)) x13.gh fun H14 e14 => ?_
    have no : (PD.isNon (optD (stopFrom 0 [] ss)) && !PD.isNon (optD (stopFrom 0 [] (mendS ss m)))) = false := by
      cases hs : stopFrom 0 [] ss with
      | none => rw [hgo hs]; rfl
      | some k => rfl
    rw [no]
    refine iteF (nxt ⟨G12, some v10, some v11, some v12, rfl, ((xx.trans x11').trans x13).trans (extW_same x13.gh x13.cl e14), (w13.up e14).mono (by omega), (s10.trans x11'.gg).trans x12'.gg⟩)
  · rintro σ H10 ⟨G10, x10, x11, x12, rfl, xx, w10, s10⟩
    rw [List.length_map] at w10
    have sx : Same Gx G10 := x9.gg.trans s10
    -- near things
    refine tForN_use (c := 0 + 1000) (DL := fun ds => (∀ x ∈ ds, NearD x) ∧ ds.length ≤ 100) xx.gh xx.cl w10 (by omega) (WN_list (PN_callS (c2 := 1000) (DS := (· = [encSS ss, .list (ms.map encM)])) (D := fun d => ∃ xs, d = .list xs ∧ (∀ x ∈ xs, NearD x) ∧ xs.length ≤ 100) rfl (PNA_of (PRA_two (PV (i := 2) (d2_2.up sx)) (compr sx rfl (fun _ _ => rfl) fun _ _ => rfl))) fun ds e => by
      subst e
      exact ⟨⟨ss, ms, rfl, hR.ne, LP.len, LP.few, mlen⟩, Nat.le_refl _, fun d h => h⟩) fun d ⟨xs, e, h⟩ => ⟨xs, e, h⟩) fun ds J G11 H11 ⟨hnear, hnl⟩ x11' w11 dw => ?_
    refine for_nm dw (fun j σ H' => ∃ (G' : Hp) (x12 x14 : Option V), σ = [some (.ref W.st), some (.str nm), some u2, some u3, some vm, some vh, some vd, some (.str txt), some vs8, some (.ref pa), x10, x11, x12, none, x14] ∧ ExtW W G H G' H' ∧ WOk W (n + 200 + 0 + 100 * ms.length + (0 + 1000)) H' ∧ Same G11 G') ?_ ?_ ?_ ?_
    · exact ⟨G11, x12, none, rfl, xx.trans x11', w11, Same.refl _⟩
    · rintro j σ H' _ ⟨G', x12, x14, _, x, _, s'⟩
      exact s'.trans x.gh
    · rintro j d y σ H12 H13 hd ⟨G12, x12, x14, rfl, x12', w12, s12⟩ e13 yy
      have hN := hnear d (List.mem_of_getElem? hd)
      obtain ⟨G13, x13, w13, dy⟩ := yldW x12'.gh x12'.cl w12 s12 yy
      have sy : Same Gx G13 := ((sx.trans x11'.gg).trans s12).trans x13.gg
      have dm13 := dm2.up sy
      have d2_13 := d2_2.up sy
      have xall := x12'.trans x13
      refine tSetQ_use ?_
      refine met_use (qs := []) (told := fun v G' => ∃ m, FormM ss m ∧ LzM d m ∧ wrongFrom 0 (mendS ss m) = none ∧ Dq G' v (protoD C nm (mendS ss m))) (bad := fun tag v => tag = "mend" ∧ v = y ∧ MendIs ss d false) (sp' := fun _ => spLM C CP CM) M w13 x13.gh x13.cl (fun f c' => (cal_M FMd).mono (by decide)) (fun c' H4 x4 w4 Q' E' hQ hE => ?_) (fun v G' H' p x' w' ht hp => ?_) fun tag v H' p hb x' w' hp => ?_
      · refine ⟨vm, y, rfl, rfl, ?_⟩
        cases hfd : formD ss d with
        | false => exact ⟨G13, vm, y, _, d, rfl, x4.gh, dm13, dy, .inr ⟨nm, ss, .none, rfl, hR, hA, hf9, hN.obj, .inl ⟨hfd, rfl⟩, fun _ dx H' h1 h2 h3 => hE CM "mend" "mend" dx y H' (.inr (.inr ⟨rfl, rfl, rfl⟩)) ⟨rfl, rfl, .inl ⟨hfd, rfl⟩⟩ (extW_same x4.gh x4.cl h3) (w4.up h3) h2, fun z => absurd rfl z⟩⟩
        | true =>
          obtain ⟨m, hF, hZ⟩ := formD_mend hfd
          by_cases hw' : wrongFrom 0 (mendS ss m) = none
          · exact sp_mended hR hA hf9 hF hw' hZ x4.gh dm13 dy fun v' G' H' e dv => hQ v' _ H' (e.w x4.cl w4) (w4.up e.hh) ⟨m, hF, hZ, hw', joinG_dq e.gg dv⟩
          · exact ⟨G13, vm, y, _, d, rfl, x4.gh, dm13, dy, .inr ⟨nm, ss, .none, rfl, hR, hA, hf9, hN.obj, .inr ⟨m, hF, hZ, by rw [byD, if_neg hw']⟩, fun _ dx H' h1 h2 h3 => hE CM "mend" "mend" dx y H' (.inr (.inr ⟨rfl, rfl, rfl⟩)) ⟨rfl, rfl, .inr ⟨m, hF, hZ, (decide_eq_false hw').symm⟩⟩ (extW_same x4.gh x4.cl h3) (w4.up h3) h2, fun z => absurd rfl z⟩⟩
      · obtain ⟨m, hF, hZ, hWr, dv⟩ := ht
        have hmR := mend_right hR hf9 hF hWr
        have hmF : Few 4 (mendS ss m) := mendS_few hF LP.few
        have e6 : Ext G' H' (upd G' p (.tup [.str "told", v])) (upd H' p (.tup [.str "told", v])) := .new x'.gh hp
        have x6 := e6.w x'.cl w'
        have w6 := w'.up e6.hh
        have dp : Dq (joinG G' (upd G' p (.tup [.str "told", v]))) (.ref p) (.tuple [.str "told", protoD C nm (mendS ss m)]) := joinG_dq e6.gg (.tup upd_same (.cons (.str _) (.cons (dv.up e6.gg) .nil)))
        generalize joinG G' (upd G' p (.tup [.str "told", v])) = G6 at x6 dp
        generalize upd H' p (.tup [.str "told", v]) = H6 at x6 w6
        have dy6 := dy.up (x'.gg.trans x6.gg)
        have d26 := d2_13.up (x'.gg.trans x6.gg)
        refine tIf_use (b := !true) (TR_not (TR_tB (PR_call (D := DIsMend) (PRA_two (PV (σ := [some (.ref W.st), some (.str nm), some u2, some u3, some vm, some vh, some vd, some (.str txt), some vs8, some (.ref pa), x10, x11, some (.ref p), none, some y]) (i := 2) d26) (PV (i := 14) dy6)) ⟨ss, d, true, rfl, rfl, .inr ⟨m, hF, hZ, (decide_eq_true hWr).symm⟩, hR, hf9, hN.obj⟩))) x6.gh fun H7 e7 => iteF ?_
        have seq : isSeq d = true := by
          cases m with
          | add i p l => obtain ⟨y, hr, _⟩ := hZ; exact hr.seq
          | shift i p t => exact Row.seq hZ
        refine tIf_use (b := decide (("told" : Str) ≠ "told") || !true) (TR_or (TR_test (PR_op RR2_neS (PR_op (RR2_ixT (j := 0) rfl) (PV (σ := [some (.ref W.st), some (.str nm), some u2, some u3, some vm, some vh, some vd, some (.str txt), some vs8, some (.ref pa), x10, x11, some (.ref p), none, some y]) (i := 12) dp) PR_int) PR_str)) fun _ => TR_not (TR_tB (PR_call (D := DSame C 5) (PRA_two (PR_stepsM (PR_op (RR2_ixT (j := 1) rfl) (PV (i := 12) dp) PR_int) hmR.len) ((PR_call (D := DMendL) (PRA_two (PV (i := 2) d26) ((PR_tup1 (PV (i := 14) dy6) seq).eq (hN.tup hZ))) ⟨ss, m, rfl, rfl, FormM.fits hF, hR.short, mendS_form hF hR.form hf9⟩).eq (by rw [lawMended, if_pos hWr])))
          ⟨_, rfl, rfl, (nearB_rel C 4 _ (nearB_steps (by decide) hmF hmR.len)).mono (by decide)⟩))) (x6.gh.trans e7) fun H8 e8 => ?_
        rw [show (decide (("told" : Str) ≠ "told") || !true) = false by simp]
        exact iteF (nxt ⟨G6, some (.ref p), some y, rfl, (((xall.trans x').trans x6)).trans (extW_same x6.gh x6.cl (e7.trans e8)), w6.up (e7.trans e8), ((s12.trans x13.gg).trans x'.gg).trans x6.gg⟩)
      · obtain ⟨rfl, rfl, hM⟩ := hb
        have e6 : Ext G13 H' (upd G13 p (.tup [.str "mend", v])) (upd H' p (.tup [.str "mend", v])) := .new x'.gh hp
        have x6 := e6.w x'.cl w'
        have w6 := w'.up e6.hh
        have dp : Dq (joinG G13 (upd G13 p (.tup [.str "mend", v]))) (.ref p) (.tuple [.str "mend", d]) := joinG_dq e6.gg (.tup upd_same (.cons (.str _) (.cons (dy.up e6.gg) .nil)))
        generalize joinG G13 (upd G13 p (.tup [.str "mend", v])) = G6 at x6 dp
        generalize upd H' p (.tup [.str "mend", v]) = H6 at x6 w6
        have dy6 := dy.up x6.gg
        have d26 := d2_13.up x6.gg
        refine tIf_use (b := !false) (TR_not (TR_tB (PR_call (D := DIsMend) (PRA_two (PV (σ := [some (.ref W.st), some (.str nm), some u2, some u3, some vm, some vh, some vd, some (.str txt), some vs8, some (.ref pa), x10, x11, some (.ref p), none, some v]) (i := 2) d26) (PV (i := 14) dy6)) ⟨ss, d, false, rfl, rfl, hM, hR, hf9, hN.obj⟩))) x6.gh fun H7 e7 => iteT ?_
        have relB : Rel C 5 (.tuple [.str "mend", d]) := .seq rfl (by simp [itemsD]) fun z hz => by
          simp only [itemsD, List.mem_cons, List.not_mem_nil, or_false] at hz
          rcases hz with rfl | rfl
          · exact nearB_rel C 4 _ (by decide +kernel)
          · exact (hN.rel C).mono (by decide)
        refine tIf_use (b := !true) (TR_not (TR_tB (PR_call (D := DSame C 5) (PRA_two (PV (σ := [some (.ref W.st), some (.str nm), some u2, some u3, some vm, some vh, some vd, some (.str txt), some vs8, some (.ref pa), x10, x11, some (.ref p), none, some v]) (i := 12) dp) (PR_tup (PRA_two PR_str (PV (i := 14) dy6)) T2)) ⟨_, rfl, rfl, relB⟩))) (x6.gh.trans e7) fun H8 e8 => iteF (nxt ?_)
        exact ⟨G6, some (.ref p), some v, rfl, ((xall.trans x').trans x6).trans (extW_same x6.gh x6.cl (e7.trans e8)), w6.up (e7.trans e8), ((s12.trans x13.gg)).trans x6.gg⟩
    · rintro σ H12 ⟨G12, x12, x14, rfl, x12', w12, s12⟩
      have sz := (sx.trans x11'.gg).trans s12
      refine tRet_use x12'.gh (PR_op (RR2_eqOwn (D := DEq C) (b := true) ⟨nm, ss, nm, ss, rfl, by simp⟩) (PV (i := 4) (dm2.up sz)) (PR_make (PRA_two (PV (i := 1) (.str nm)) (PV (i := 2) (d2_2.up sz))) (lzSS_enc ss) hR hA)) fun v G' H' e dv => ?_
      exact kq (.bool true) v _ H' rfl (x12'.trans (e.w x12'.cl w12)) ((w12.up e.hh).mono (by show _ ≤ n + 1000000; omega)) (joinG_dq e.gg dv)
end
end K50
set_option Elab.async false
set_option linter.all false
set_option maxRecDepth 100000
set_option maxHeartbeats 4000000
/-! PdEqD: {} == a list -/
namespace PD
open PySem PySem.Spec PyProof.Rows L2 PySem.SeqAt PySem.MeetsSeq PySem.AutoSeq1
theorem dict_declines (l b : Addr) (es : Array DictEntry) (ep : Nat) (items : Array Value) (n : Nat) (dd dd2 : Option Addr) (sl sl2 : Array (Option Value)) :
    Meets (Builtin.«dict.__eq__» ⟨[.ref l, .ref b], []⟩) (fun _ R s => s.heap.get? l = some { cls := .type "dict", dict := dd, data := .dict es ep, slots := sl } ∧ s.heap.get? b = some { cls := .type "list", dict := dd2, data := .seq items n, slots := sl2 } ∧ R (.ok (.ret .notImplemented)) s) :=
  .of_wp fun prog w A R s h => by
    obtain ⟨hp, g, d, tk, os⟩ := s
    obtain ⟨hl, hb, h⟩ := h
    have f1 := F.sub_list_dict
    wp_walk using wpAny_loadPart' hl, wpAny_loadPart' hb
    exact ⟨_, rfl, h⟩
theorem list_declines (l b : Addr) (es : Array DictEntry) (ep : Nat) (items : Array Value) (n : Nat) (dd dd2 : Option Addr) (sl sl2 : Array (Option Value)) :
    Meets (Builtin.«list.__eq__» ⟨[.ref l, .ref b], []⟩) (fun _ R s => s.heap.get? l = some { cls := .type "list", dict := dd, data := .seq items n, slots := sl } ∧ s.heap.get? b = some { cls := .type "dict", dict := dd2, data := .dict es ep, slots := sl2 } ∧ R (.ok (.ret .notImplemented)) s) :=
  .of_wp fun prog w A R s h => by
    obtain ⟨hp, g, d, tk, os⟩ := s
    obtain ⟨hl, hb, h⟩ := h
    have f1 := F.sub_dict_list
    wp_walk using wpAny_loadPart' hl, wpAny_loadPart' hb
    exact ⟨_, rfl, h⟩
/-- {} == l -/
def rDL : R2 := fun x y H Q => ∃ a b xs, x = .ref a ∧ y = .ref b ∧ H a = some (.dK []) ∧ H b = some (.lst xs) ∧ Q (.bl false) H
theorem op_eqDL {X : Cx} (hu : X.A.units + 64 < cLine) : OpR X (compareOp .Eq) rDL := by
  intro pins s σ H x y v u Q I rx ry ⟨a, b, xs, ex, ey, h1, h2, q⟩
  subst ex ey
  obtain rfl : v = Value.ref a := rx
  obtain rfl : u = Value.ref b := ry
  obtain ⟨_, _, vs, _, o, es, ep, e1, ⟨c1, c2, c3⟩, e2, _⟩ := I.hok a _ h1
  obtain ⟨_, its, n, _, e3⟩ := I.hok b _ h2
  obtain ⟨cls, dd, data, sl⟩ := o
  simp only at c1 c2 c3 e2
  subst c1 c2 c3 e2
  have ne : a ≠ b := fun z => by
    subst z
    rw [h1] at h2; cases h2
  refine rc_eq_decline_or (k := false) ⟨_, e1, rfl⟩ ⟨_, e3, rfl⟩ (by decide) F.sub_list_dict F.slot_dict_eq F.slot_list_eq_refl
    (fun _ hq => call_meets F.slot_dict_eq ⟨_, e1, rfl⟩ F.entry_dict_eq (F.args_dict_eq_2 _ _) (dict_declines a b es ep its.toArray n none none #[] #[]) ⟨e1, e3, hq⟩)
    (fun _ hq => call_meets F.slot_list_eq_refl ⟨_, e3, rfl⟩ F.entry_list_eq (F.args_list_eq_2 _ _) (list_declines b a es ep its.toArray n none none #[] #[]) ⟨e3, e1, hq⟩)
    (fun _ hq => wpAny_isSame_ref_other' ne e1 e3 (by simp) hq) (.inr (by omega)) ⟨.bl false, H, I, rfl, q⟩
theorem RR2_eqDL {ds : List PyData} : RR2 rDL (.dict []) (.list ds) (.bool false) := fun x y G H Q hs h1 h2 k => by
  cases h1 with
  | dict ha =>
    cases h2 with
    | lst hb _ => exact ⟨_, _, _, rfl, rfl, hs _ _ ha, hs _ _ hb, k _ G H (.refl hs) (.bl _)⟩
end PD
set_option Elab.async false
set_option linter.all false
set_option maxRecDepth 100000
set_option maxHeartbeats 8000000
/-! K51g: _law_refused_right -/
namespace K50
open PySem PySem.Spec PyProof.Rows L2 PD StX RZ NdefX LamX
/-! ### what is none -/
structure BadT (d : PyData) : Prop where
  obj : Obj 10 d
  len : (itemsD d).length ≤ 1000
  bad : plsD d = false ∨ ∃ ls, LzLs d ls ∧ unlikeD (ls.map encL) = false
def heldD : PyData := .list [.tuple [.str "word", .int 1], .tuple [.str "word", .int 10]]
def oddsD : List PyData := [.none, .int 5, .str "ab", .dict [], .list [.tuple [.str "word", .int 1], .list [.str "word", .int 1]], .list [.tuple [.str "cipher", .int 2]], .list [.tuple [.str "cipher", .str "ann"]], .list [.int 5], .list [.tuple [.str "label"]]]
/-- an odd of the law's: no list of layers, not equal to the held one -/
structure OddT (C : Addr) (d : PyData) : Prop where
  bad : BadT d
  rel : Rel C 4 d
  ne : d = .dict [] ∨ (SeqAt.shaped d = true ∧ PyData.eqv d heldD = false)
theorem oddT_of {C : Addr} {d : PyData} (h1 : nearB 4 d = true) (h2 : plsD d = false) (h3 : SeqAt.shaped d = true) (h4 : PyData.eqv d heldD = false) : OddT C d :=
  ⟨⟨.inl ((nearB_sh 4 d h1).mono (by decide)), by
    cases hs : isSeq d with
    | true => obtain ⟨_, _, h, _⟩ := nearB_items h1 hs; exact h
    | false => cases d <;> first | (cases hs; done) | exact Nat.zero_le _, .inl h2⟩, nearB_rel C 4 d h1, .inr ⟨h3, h4⟩⟩
theorem oddsD_is (C : Addr) : ∀ d ∈ oddsD, OddT C d := fun d hd => by
  simp only [oddsD, List.mem_cons, List.not_mem_nil, or_false] at hd
  rcases hd with rfl | rfl | rfl | rfl | rfl | rfl | rfl | rfl | rfl
  · exact oddT_of (by decide +kernel) (by decide +kernel) (by decide +kernel) (by decide +kernel)
  · exact oddT_of (by decide +kernel) (by decide +kernel) (by decide +kernel) (by decide +kernel)
  · exact oddT_of (by decide +kernel) (by decide +kernel) (by decide +kernel) (by decide +kernel)
  · exact ⟨⟨.inr rfl, Nat.zero_le _, .inl rfl⟩, .leaf rfl (fun _ => rfl) (fun z => by cases z), .inl rfl⟩
  · exact ⟨⟨.inl ((nearB_sh 4 _ (by decide +kernel)).mono (by decide)), by decide, .inr ⟨[(.wo, 1), (.wo, 1)], ⟨_, .inl rfl, .cons (.inr rfl) (.cons (.inl rfl) .nil)⟩, by decide +kernel⟩⟩, nearB_rel C 4 _ (by decide +kernel), .inr ⟨by decide +kernel, by decide +kernel⟩⟩
  · exact oddT_of (by decide +kernel) (by decide +kernel) (by decide +kernel) (by decide +kernel)
  · exact oddT_of (by decide +kernel) (by decide +kernel) (by decide +kernel) (by decide +kernel)
  · exact oddT_of (by decide +kernel) (by decide +kernel) (by decide +kernel) (by decide +kernel)
  · exact oddT_of (by decide +kernel) (by decide +kernel) (by decide +kernel) (by decide +kernel)
theorem heldD_is : BadT heldD := ⟨.inl ((nearB_sh 4 _ (by decide +kernel)).mono (by decide)), by decide, .inl (by decide +kernel)⟩
section
variable {P : Program} {w : World} {K : PySem.W.Frag} {mg : Str → Option Value} {base : Heap} {G H G' H' : Hp} {C CP CL CM : Addr} {t : Tb}
section
variable {X : Cx} {W : Wl} {n : Nat} {σ : L2.St} {Q : VK} {c T : Addr} {v vm : V} {d : PyData} {nm : Str} {ss : List Stp}
theorem met_A (F : FGoes P w K mg base C CP) (m : MkT W.t base mg c T ((X.env.qual ++ "<lambda>") :: [])) (hw : WOk W n H) (hs : Same G H) (hcl : Cl W G) (hσ : slotAt σ 1 = some v) (dv : Dq G v d) (hp : PD.plain d = true) (k : ∀ H' p, ExtW W G H G H' → WOk W n H' → H' p = none → Q (.ref p) (upd H' p (.tup [.str "protocol", v]))) :
    tCallT (cloFrom X.env.cells (compSc eA).names []) ["_law_odd"] [1] (spMet P w K mg base CP CL CM 13) (tCons (tLamb X (fun _ => True) W.t.Z T [] (compSc eA) (lamArgs eA) (lamBody eA)) tNil) σ H Q :=
  met_use (told := fun _ _ => False) (bad := fun tag u => tag = "protocol" ∧ u = v) (sp' := fun _ => spLA C CP) m hw hs hcl (fun f c' => (cal_A F).mono (by decide))
    (fun c' H4 x4 w4 Q' E hQ hE => ⟨v, by simp [hσ], rfl, G, v, d, rfl, x4.gh, dv, .inl ⟨hp, fun dx H' h1 h2 h3 => hE CP "protocol" "protocol" dx v H' (.inl ⟨rfl, rfl, rfl⟩) ⟨rfl, rfl⟩ (extW_same x4.gh x4.cl h3) (w4.up h3) h2⟩⟩)
    (fun _ _ _ _ _ _ h _ => h.elim) fun tag u H' p ⟨e1, e2⟩ x w hp => by subst e1 e2; exact k H' p x w hp
theorem met_B (F : FMended P w K mg base C CP CM) (m : MkT W.t base mg c T ((X.env.qual ++ "<lambda>") :: [])) (hw : WOk W n H) (hs : Same G H) (hcl : Cl W G) (hσ : slotAt σ 1 = some v) (dv : Dq G v d) (hp : PD.plain d = true) (k : ∀ H' p, ExtW W G H G H' → WOk W n H' → H' p = none → Q (.ref p) (upd H' p (.tup [.str "protocol", v]))) :
    tCallT (cloFrom X.env.cells (compSc eB).names []) ["_law_odd"] [1] (spMet P w K mg base CP CL CM 13) (tCons (tLamb X (fun _ => True) W.t.Z T [] (compSc eB) (lamArgs eB) (lamBody eB)) tNil) σ H Q :=
  met_use (told := fun _ _ => False) (bad := fun tag u => tag = "protocol" ∧ u = v) (sp' := fun _ => spLB C CP CM) m hw hs hcl (fun f c' => (cal_B F).mono (by decide))
    (fun c' H4 x4 w4 Q' E hQ hE => ⟨v, by simp [hσ], rfl, G, v, .non, d, .none, rfl, x4.gh, dv, .non, .inl ⟨hp, fun dx H' h1 h2 h3 => hE CP "protocol" "protocol" dx v H' (.inl ⟨rfl, rfl, rfl⟩) ⟨rfl, rfl⟩ (extW_same x4.gh x4.cl h3) (w4.up h3) h2⟩⟩)
    (fun _ _ _ _ _ _ h _ => h.elim) fun tag u H' p ⟨e1, e2⟩ x w hp => by subst e1 e2; exact k H' p x w hp
theorem met_C (F : FMends P w K mg base C CP CL) (m : MkT W.t base mg c T ((X.env.qual ++ "<lambda>") :: [])) (hw : WOk W n H) (hs : Same G H) (hcl : Cl W G) (hσ : slotAt σ 1 = some v) (dv : Dq G v d) (hp : PD.plain d = true) (k : ∀ H' p, ExtW W G H G H' → WOk W n H' → H' p = none → Q (.ref p) (upd H' p (.tup [.str "protocol", v]))) :
    tCallT (cloFrom X.env.cells (compSc eC).names []) ["_law_odd"] [1] (spMet P w K mg base CP CL CM 13) (tCons (tLamb X (fun _ => True) W.t.Z T [] (compSc eC) (lamArgs eC) (lamBody eC)) tNil) σ H Q :=
  met_use (told := fun _ _ => False) (bad := fun tag u => tag = "protocol" ∧ u = v) (sp' := fun _ => spLC C CP CL) m hw hs hcl (fun f c' => cal_C F)
    (fun c' H4 x4 w4 Q' E hQ hE => ⟨v, by simp [hσ], rfl, G, v, .non, d, .none, rfl, x4.gh, dv, .non, .inl ⟨hp, fun dx H' h1 h2 h3 => hE CP "protocol" "protocol" dx v H' (.inl ⟨rfl, rfl, rfl⟩) ⟨rfl, rfl⟩ (extW_same x4.gh x4.cl h3) (w4.up h3) h2⟩⟩)
    (fun _ _ _ _ _ _ h _ => h.elim) fun tag u H' p ⟨e1, e2⟩ x w hp => by subst e1 e2; exact k H' p x w hp
theorem met_D (F : FMends P w K mg base C CP CL) (m : MkT W.t base mg c T ((X.env.qual ++ "<lambda>") :: [])) (hw : WOk W n H) (hs : Same G H) (hcl : Cl W G) (hσ0 : slotAt σ 0 = some vm) (hσ : slotAt σ 1 = some v) (dm : Dq G vm (protoD C nm ss)) (hR : Right ss) (hA : AgentN nm) (hW : Few 999 ss) (dv : Dq G v d) (hb : BadT d)
    (k : ∀ H' p, ExtW W G H G H' → WOk W n H' → H' p = none → Q (.ref p) (upd H' p (.tup [.str "layers", v]))) :
    tCallT (cloFrom X.env.cells (compSc eD).names []) ["_law_made", "_law_odd"] [0, 1] (spMet P w K mg base CP CL CM 13) (tCons (tLamb X (fun _ => True) W.t.Z T [] (compSc eD) (lamArgs eD) (lamBody eD)) tNil) σ H Q :=
  met_use (told := fun _ _ => False) (bad := fun tag u => tag = "layers" ∧ u = v) (sp' := fun _ => spLD C CP CL) m hw hs hcl (fun f c' => cal_D F)
    (fun c' H4 x4 w4 Q' E hQ hE => by
      have out : XOut CL "layers" v H4 E := fun dx H' h1 h2 h3 => hE CL "layers" "layers" dx v H' (.inr (.inl ⟨rfl, rfl, rfl⟩)) ⟨rfl, rfl⟩ (extW_same x4.gh x4.cl h3) (w4.up h3) h2
      refine ⟨vm, v, by simp [hσ0, hσ], rfl, G, vm, v, _, d, rfl, x4.gh, dm, dv, .inr ⟨nm, ss, rfl, hR, hA, hW, hb.obj, hb.len, fun _ => out, fun ls hl hk => ⟨fun _ => out, fun hu => ?_⟩⟩⟩
      rcases hb.bad with h | ⟨ls', h1, h2⟩
      · rw [plsD_of hl hk] at h; cases h
      · rw [lzLs_inj hl h1, h2] at hu; cases hu)
    (fun _ _ _ _ _ _ h _ => h.elim) fun tag u H' p ⟨e1, e2⟩ x w hp => by subst e1 e2; exact k H' p x w hp
end
theorem RR2_rep3 {d : PyData} : RR2 rRep (.list [d]) (.int 3) (.list [d, d, d]) := fun x y G H Q hs h1 h2 k => by
  cases h1 with
  | lst ha hall =>
    cases h2
    obtain ⟨v, rfl, dv⟩ := hall.one
    refine ⟨_, 3, [v], rfl, rfl, hs _ _ ha, by decide, by decide, by show 3 ≤ sizeLine; rw [sizeLine_eq]; decide, fun p hp => k _ _ _ (.new hs hp) (.lst upd_same ?_)⟩
    have dv := dv.up (same_new (o := .lst (List.replicate (3 : Int).toNat [v]).flatten) (hs.free hp))
    exact .cons dv (.cons dv (.cons dv .nil))
theorem WN_tup {W : Wl} {tl : TE} {σ : L2.St} {c : Nat} {D : PyData → Prop} {DL : List PyData → Prop} (h : PN W tl σ G c D) (hD : ∀ d, D d → ∃ ds, d = .tuple ds ∧ DL ds) : WN W (iTup K tl) σ G c DL := fun H n R hs cl hw hl k => h H n _ hs cl hw hl fun d v G' H' hd x hw' dv => by
  obtain ⟨ds, rfl, q⟩ := hD d hd
  cases dv with
  | tup ha hd => exact ⟨_, rfl, ⟨_, SqT.of (x.gh _ _ ha)⟩, k ds _ G' H' q x hw' (DW_tup ha hd)⟩
/-- an argument list whose last item is what the slot i holds -/
def PRAr (t : TA) (σ : L2.St) (G : Hp) (ds : List PyData) (v : V) : Prop := ∀ (H : Hp) (Q : List V → Hp → Prop), Same G H → (∀ vs G' H', Ext G H G' H' → DqAll G' vs ds → Q (vs ++ [v]) H') → t σ H Q
theorem PRAr.mono {t : TA} {σ : L2.St} {G1 : Hp} {ds : List PyData} {v : V} (h : PRAr t σ G ds v) (e : Same G G1) : PRAr t σ G1 ds v := fun H Q hs k => h H Q (e.trans hs) fun vs G' H' x dv => by
  obtain ⟨G2, y, z⟩ := x.lift e hs
  exact k vs G2 H' y (dv.up z)
theorem PRAr_last {σ : L2.St} {i : Nat} {v : V} (h : σ[i]? = some (some v)) : PRAr (tCons (tVar i) tNil) σ G [] v := fun H Q hs k => ⟨v, h, k [] G H (.refl hs) .nil⟩
theorem PRAr_cons {σ : L2.St} {te : TE} {t : TA} {d : PyData} {ds : List PyData} {v : V} (h : PR te σ G d) (r : PRAr t σ G ds v) : PRAr (tCons te t) σ G (d :: ds) v := fun H Q hs k =>
  h H _ hs fun x G1 H1 e1 dx => (r.mono e1.gg) H1 _ e1.gh fun vs G2 H2 e2 dvs => k (x :: vs) G2 H2 (e1.trans e2) (.cons (dx.up e2.gg) dvs)
theorem tAsgLstR_use {σ : L2.St} {t : TA} {g : TG} {De : Ends} {ds : List PyData} {v : V} (hs : Same G H) (h : PRAr t σ G ds v) (hz : ds.length + 1 ≤ sizeLine) (k : ∀ vs G' H' p, Ext G H G' H' → DqAll G' vs ds → H' p = none → g (.ref p) σ (upd H' p (.lst (vs ++ [v]))) De.nx) : tAsg (tLst t) g De σ H :=
  h H _ hs fun vs G' H' e dv => ⟨by rw [List.length_append, dv.len]; exact hz, fun p hp => k vs G' H' p e dv hp⟩
/-- what stands is frozen too -/
theorem same_at {p : Addr} {o : HO} (hs : Same G H) (h : H p = some o) : Same G (upd G p o) ∧ Same (upd G p o) H := by
  refine ⟨fun a u e => ?_, fun a u e => ?_⟩
  · by_cases z : a = p
    · subst z
      have := hs _ _ e
      rw [h] at this
      rw [upd_same]; exact this
    · rw [upd_ne z]; exact e
  · by_cases z : a = p
    · subst z; rw [upd_same] at e; rw [h]; exact e
    · rw [upd_ne z] at e; exact hs _ _ e
def oddsP (C : Addr) (nm : Str) (ss : List Stp) : List PyData := [.none, .int 5, .str "protocol", .list [protoD C nm ss], .dict [], .tuple [.str "greet", .list []]]
theorem oddsP_is {C : Addr} {nm : Str} {ss : List Stp} : ∀ d ∈ oddsP C nm ss, PD.plain d = true ∧ Rel C 3 d := fun d hd => by
  simp only [oddsP, List.mem_cons, List.not_mem_nil, or_false] at hd
  rcases hd with rfl | rfl | rfl | rfl | rfl | rfl
  · exact ⟨rfl, nearB_rel C 3 _ (by decide +kernel)⟩
  · exact ⟨rfl, nearB_rel C 3 _ (by decide +kernel)⟩
  · exact ⟨rfl, nearB_rel C 3 _ (by decide +kernel)⟩
  · exact ⟨rfl, .seq rfl (by simp [itemsD]) fun x hx => by
      have : x = protoD C nm ss := by simpa [itemsD] using hx
      subst this
      exact .ins⟩
  · exact ⟨rfl, .leaf rfl (fun _ => rfl) fun z => by cases z⟩
  · exact ⟨rfl, nearB_rel C 3 _ (by decide +kernel)⟩
theorem relPair {C : Addr} {k : Nat} {tag : Str} {d : PyData} (ht : PyData.strOk tag = true) (h : Rel C k d) : Rel C (k + 1) (.tuple [.str tag, d]) := .seq rfl (by simp [itemsD]) fun z hz => by
  simp only [itemsD, List.mem_cons, List.not_mem_nil, or_false] at hz
  rcases hz with rfl | rfl
  · exact nearB_rel C k _ (by cases k <;> exact ht)
  · exact h
theorem okProto : PyData.strOk ("protocol" : Str) = true := by decide +kernel
theorem okLayers : PyData.strOk ("layers" : Str) = true := by decide +kernel
abbrev nRef : List Str := ["_law_made", "_law_odd", "_law_found", "_law_held", "_law_odds"]
theorem scRef : FnScope nRef ["_law_made"] (defScope sRef) := ⟨rfl, rfl, rfl, by decide +kernel, rfl, by decide +kernel, by decide +kernel⟩
abbrev qRef : Str := "_law_refused_right" ++ ".<locals>." ++ "<lambda>"
theorem own_ref {X : Cx} {sc : Scope} {fr : List Str} {js : List Nat} (h1 : ndefB (defScope sRef) sc fr = true) (h2 : fr.all (fun y => sc.names.contains (y, NameKind.free)) = true) (h3 : js.map (fun j => nRef[j]?) = fr.map some) (hN : X.N = nRef := by rfl) (hS : X.env.scope = defScope sRef := by rfl) (hfn : ∀ y, X.fn y = true := by intro _; rfl) : Own X (cloFrom X.env.cells sc.names []) fr js :=
  own_made (by rw [hS]; exact ndef_free (fr := fr) h1) (fun y hy => by have := List.all_eq_true.mp h2 y hy; simpa using this) (by rw [hN]; exact h3) hfn
def prRef (C : Addr) (ds : List PyData) : Prop := ∃ n ss, ds = [protoD C n ss] ∧ Right ss ∧ AgentN n ∧ Few 999 ss
abbrev FRef (P : Program) (w : World) (K : PySem.W.Frag) (mg : Str → Option Value) (base : Heap) (t : Tb) (C : Addr) : Prop := Fn P w K mg base CX0 "_law_refused_right" 15 1 (spW t (fun _ => 0) (prRef C) DTrue)
theorem fn_ref {c Tt : Addr} (D : DfC K mg "_law_refused_right" sRef c) (M : MkT t base mg c Tt [qRef])
    (FS : Fn P w K mg base CX0 "_law_same" 7 2 (spP (DSame C 5))) (FG : FGoes P w K mg base C CP) (FMs : FMends P w K mg base C CP CL) (FMd : FMended P w K mg base C CP CM) (FMt : FMet P w K mg base CP CL CM) : FRef P w K mg base t C := by
  refine D.fn scRef (by rintro vs H Q E ⟨W, G, ds, n, ht, hG, hcl, hw, hl, hd, ⟨nm, ss, rfl, _⟩, k⟩; have := hd.len; simpa using this) rfl (fun _ _ _ _ _ _ us hl => match us, hl with | [_], _ => rfl) fun f A outer s H vs Q E hr hsp => ?_
  obtain ⟨W, G, ds, n, rfl, hG, hcl, hw, hl, hd, ⟨nm, ss, rfl, hR, hA, hf9⟩, kq⟩ := hsp
  obtain ⟨u, rfl, du⟩ := hd.one
  have hu := hr.u65
  have hsz : sizeLine = 16777216 := sizeLine_eq
  refine ⟨_, pss_cons (ps_for PassesOwn.never rfl (pi_tup (pe_tup (pa_cons pe_non (pa_cons pe_int (pa_cons pe_str (pa_cons (pe_lst (pa_cons (pv 0) pa_nil)) (pa_cons pe_dnewK (pa_cons (pe_tup (pa_cons pe_str (pa_cons (pe_lst pa_nil) pa_nil))) pa_nil)))))))) (pg_name (i := 1) scRef.nd rfl (.inr rfl))
      (pss_cons (ps_set (i := 2) scRef.nd rfl (.inl rfl) (pe_lst (pa_cons (pe_fnT (own_ref (sc := compSc eA) (fr := ["_law_odd"]) (js := [1]) (by decide +kernel) (by decide +kernel) rfl) FMt hr (fun s H e s' h => h) (pa_cons (pe_lambB (Z := W.t.Z) (T := Tt) (qs := []) M.tb rfl (ndef_free (sc := defScope sRef) (nsc := compSc eA) (fr := ["_law_odd"]) (by decide +kernel)) rfl) pa_nil) spm_len) pa_nil)))
      (pss_cons (xs_append (pv 2) (pe_fnT (own_ref (sc := compSc eB) (fr := ["_law_odd"]) (js := [1]) (by decide +kernel) (by decide +kernel) rfl) FMt hr (fun s H e s' h => h) (pa_cons (pe_lambB (Z := W.t.Z) (T := Tt) (qs := []) M.tb rfl (ndef_free (sc := defScope sRef) (nsc := compSc eB) (fr := ["_law_odd"]) (by decide +kernel)) rfl) pa_nil) spm_len))
      (pss_cons (xs_append (pv 2) (pe_fnT (own_ref (sc := compSc eC) (fr := ["_law_odd"]) (js := [1]) (by decide +kernel) (by decide +kernel) rfl) FMt hr (fun s H e s' h => h) (pa_cons (pe_lambB (Z := W.t.Z) (T := Tt) (qs := []) M.tb rfl (ndef_free (sc := defScope sRef) (nsc := compSc eC) (fr := ["_law_odd"]) (by decide +kernel)) rfl) pa_nil) spm_len))
      (pss_one (ps_if (pt_not (pt_val (pe_fn FS (hr.mono (by decide)) (by rfl) pass0 (pa_cons (pv 2) (pa_cons (pe_op op_rep (pe_lst (pa_cons (pe_tup (pa_cons pe_str (pa_cons (pv 1) pa_nil))) pa_nil)) pe_int) pa_nil))))) (pss_one (ps_ret pe_bl)) pss_nil))))))
    (pss_cons (ps_set (i := 3) scRef.nd rfl (.inl rfl) (pe_lst (pa_cons (pe_tup (pa_cons pe_str (pa_cons pe_int pa_nil))) (pa_cons (pe_tup (pa_cons pe_str (pa_cons pe_int pa_nil))) pa_nil))))
    (pss_cons (ps_set (i := 4) scRef.nd rfl (.inl rfl) (pe_lst (pa_cons pe_non (pa_cons pe_int (pa_cons pe_str (pa_cons pe_dnewK (pa_cons (pe_lst (pa_cons (pe_tup (pa_cons pe_str (pa_cons pe_int pa_nil))) (pa_cons (pe_lst (pa_cons pe_str (pa_cons pe_int pa_nil))) pa_nil))) (pa_cons (pe_lst (pa_cons (pe_tup (pa_cons pe_str (pa_cons pe_int pa_nil))) pa_nil)) (pa_cons (pe_lst (pa_cons (pe_tup (pa_cons pe_str (pa_cons pe_str pa_nil))) pa_nil))
      (pa_cons (pe_lst (pa_cons pe_int pa_nil)) (pa_cons (pe_lst (pa_cons (pe_tup (pa_cons pe_str pa_nil)) pa_nil)) (pa_cons (pv 3) pa_nil))))))))))))
    (pss_cons (ps_for PassesOwn.never rfl (xi_list (K := K) (pv 4)) (pg_name (i := 1) scRef.nd rfl (.inr rfl))
      (pss_cons (ps_set (i := 2) scRef.nd rfl (.inl rfl) (pe_fnT (own_ref (sc := compSc eD) (fr := ["_law_made", "_law_odd"]) (js := [0, 1]) (by decide +kernel) (by decide +kernel) rfl) FMt hr (fun s H e s' h => h) (pa_cons (pe_lambB (Z := W.t.Z) (T := Tt) (qs := []) M.tb rfl (ndef_free (sc := defScope sRef) (nsc := compSc eD) (fr := ["_law_made", "_law_odd"]) (by decide +kernel)) rfl) pa_nil) spm_len))
      (pss_cons (ps_if (pt_cmpR (op_or (op_eqD (Nat.lt_of_succ_lt hu)) (op_eqDL (Nat.lt_of_succ_lt hu))) (pv 1) (pv 3) (nomark _)) (pss_one (xs_append (pv 3) pe_str)) pss_nil)
      (pss_one (ps_if (pt_not (pt_val (pe_fn FS (hr.mono (by decide)) (by rfl) pass0 (pa_cons (pv 2) (pa_cons (pe_tup (pa_cons pe_str (pa_cons (pv 1) pa_nil))) pa_nil))))) (pss_one (ps_ret pe_bl)) pss_nil)))))
    (pss_one (ps_ret pe_bl))))), ?_⟩
  have hl : n + 0 ≤ lim := hl
  have sz : ∀ k : Nat, k ≤ 100 → k ≤ sizeLine := fun k h => by omega
  have dic : ∀ {σ : L2.St} {G : Hp}, PR tDNewK σ G (.dict []) := fun H Q hs k p hp => k (.ref p) _ _ (.new hs hp) (.dict upd_same)
  -- the first loop
  refine tForN_use (DL := (· = oddsP C nm ss)) hG hcl hw (c := 0) (by omega) (WN_tup (D := (· = .tuple (oddsP C nm ss))) (PN_of (PR_tup (PRA_cons PR_non (PRA_cons PR_int (PRA_cons PR_str (PRA_cons (PR_lst (PRA_one (PV (i := 0) du)) (sz _ (by simp))) (PRA_two dic (PR_tup (PRA_two PR_str (PR_lst PRA_nil (sz _ (by simp)))) (sz _ (by simp)))))))) (by show 6 ≤ sizeLine; omega))) fun d hd => ⟨_, hd, rfl⟩) fun ds J G1 H1 hds x1 w1 dw => ?_
  subst hds
  refine for_nm dw (fun i σ H3 => ∃ (G3 : Hp) (o1 o2 : Option V), σ = [some u, o1, o2, none, none] ∧ ExtW W G H G3 H3 ∧ WOk W n H3 ∧ Same G1 G3) ?_ ?_ ?_ ?_
  · exact ⟨G1, none, none, rfl, x1, w1, Same.refl _⟩
  · rintro i σ H3 _ ⟨G3, o1, o2, rfl, x, _, s3⟩
    exact s3.trans x.gh
  · rintro i d y σ H3 H4 q1 ⟨G3, o1, o2, rfl, x3, w3, s3⟩ q2 q3
    obtain ⟨hpl, rl⟩ := oddsP_is d (List.mem_of_getElem? q1)
    obtain ⟨G4, x4, w4, dy⟩ := yldW x3.gh x3.cl w3 s3 q3
    refine met_A FG M w4 x4.gh x4.cl rfl dy hpl fun H5 p x5 w5 hp => ⟨by show 1 ≤ sizeLine; omega, fun q hq => ?_⟩
    have e6 : Ext G4 H5 (upd G4 p (.tup [.str "protocol", y])) (upd H5 p (.tup [.str "protocol", y])) := .new x5.gh hp
    have x6 := e6.w x5.cl w5
    have w6 := w5.up e6.hh
    have dp : Dq (joinG G4 (upd G4 p (.tup [.str "protocol", y]))) (.ref p) (.tuple [.str "protocol", d]) := joinG_dq e6.gg (.tup upd_same (.cons (.str _) (.cons (dy.up e6.gg) .nil)))
    generalize joinG G4 (upd G4 p (.tup [.str "protocol", y])) = G6 at x6 dp
    generalize upd H5 p (.tup [.str "protocol", y]) = H6 at hq x6 w6 e6
    have g7 := (GrW.start x6.gh x6.cl).new (xs := [.ref p]) w6 hq
    have w7 := w6.up (same_new (o := .lst [.ref p]) hq)
    have dy6 := dy.up x6.gg
    have mq : q ∈ [q] := List.mem_cons_self ..
    -- the second call
    refine ⟨_, rfl, .inl ⟨rfl, [.ref p], SqL.of upd_same⟩, met_B FMd M w7 g7.x.gh g7.x.cl rfl dy6 hpl fun H8 p2 x8 w8 hp2 => ?_⟩
    have g8 := g7.ext w6 x8
    have e8 : H8 q = some (.lst [.ref p]) := grw_keep g7 w6 x8 mq upd_same
    have e9 : Ext G6 H8 (upd G6 p2 (.tup [.str "protocol", y])) (upd H8 p2 (.tup [.str "protocol", y])) := .new g8.x.gh hp2
    obtain ⟨g9, w9⟩ := g8.pure w6 w8 e9
    have dp2 : Dq (joinG G6 (upd G6 p2 (.tup [.str "protocol", y]))) (.ref p2) (.tuple [.str "protocol", d]) := joinG_dq e9.gg (.tup upd_same (.cons (.str _) (.cons (dy6.up e9.gg) .nil)))
    have s69 : Same G6 (joinG G6 (upd G6 p2 (.tup [.str "protocol", y]))) := joinG_same
    have eq9 := e9.hh _ _ e8
    generalize joinG G6 (upd G6 p2 (.tup [.str "protocol", y])) = G9 at g9 dp2 s69
    generalize upd H8 p2 (.tup [.str "protocol", y]) = H9 at g9 w9 eq9
    refine ⟨q, [.ref p], .ref p2, rfl, rfl, eq9, by show 1 < sizeLine; omega, ?_⟩
    have g10 := g9.put (xs := [.ref p] ++ [.ref p2]) mq
    have w10 := g9.wput (xs := [.ref p] ++ [.ref p2]) w6 w9 mq
    have dy9 := dy6.up s69
    have h10 : upd H9 q (.lst ([.ref p] ++ [.ref p2])) q = some (.lst ([.ref p] ++ [.ref p2])) := upd_same
    generalize upd H9 q (.lst ([.ref p] ++ [.ref p2])) = H10 at g10 w10 h10
    -- the third call
    refine ⟨_, rfl, .inl ⟨rfl, _, SqL.of h10⟩, met_C FMs M w10 g10.x.gh g10.x.cl rfl dy9 hpl fun H11 p3 x11 w11 hp3 => ?_⟩
    have g11 := g10.ext w6 x11
    have e11 : H11 q = some (.lst ([.ref p] ++ [.ref p2])) := grw_keep g10 w6 x11 mq h10
    have e12 : Ext G9 H11 (upd G9 p3 (.tup [.str "protocol", y])) (upd H11 p3 (.tup [.str "protocol", y])) := .new g11.x.gh hp3
    obtain ⟨g12, w12⟩ := g11.pure w6 w11 e12
    have dp3 : Dq (joinG G9 (upd G9 p3 (.tup [.str "protocol", y]))) (.ref p3) (.tuple [.str "protocol", d]) := joinG_dq e12.gg (.tup upd_same (.cons (.str _) (.cons (dy9.up e12.gg) .nil)))
    have s912 : Same G9 (joinG G9 (upd G9 p3 (.tup [.str "protocol", y]))) := joinG_same
    have eq12 := e12.hh _ _ e11
    generalize joinG G9 (upd G9 p3 (.tup [.str "protocol", y])) = G12 at g12 dp3 s912
    generalize upd H11 p3 (.tup [.str "protocol", y]) = H12 at g12 w12 eq12
    refine ⟨q, [.ref p] ++ [.ref p2], .ref p3, rfl, rfl, eq12, by show 2 < sizeLine; omega, ?_⟩
    have g13 := g12.put (xs := ([.ref p] ++ [.ref p2]) ++ [.ref p3]) mq
    have w13 := g12.wput (xs := ([.ref p] ++ [.ref p2]) ++ [.ref p3]) w6 w12 mq
    obtain ⟨g14, s14⟩ := g13.freeze w6 upd_same
    have dq : Dq (upd G12 q (.lst (([.ref p] ++ [.ref p2]) ++ [.ref p3]))) (.ref q) (.list [.tuple [.str "protocol", d], .tuple [.str "protocol", d], .tuple [.str "protocol", d]]) := .lst upd_same (.cons (((dp.up s69).up s912).up s14) (.cons ((dp2.up s912).up s14) (.cons (dp3.up s14) .nil)))
    have dy14 := (dy9.up s912).up s14
    generalize upd G12 q (.lst (([.ref p] ++ [.ref p2]) ++ [.ref p3])) = G14 at g14 dq s14 dy14
    generalize upd H12 q (.lst (([.ref p] ++ [.ref p2]) ++ [.ref p3])) = H14 at g14 w13
    have rel5 : Rel C 5 (.list [.tuple [.str "protocol", d], .tuple [.str "protocol", d], .tuple [.str "protocol", d]]) := .seq rfl (by simp [itemsD]) fun z hz => by
      have : z = .tuple [.str "protocol", d] := by simpa [itemsD] using hz
      subst this
      exact relPair okProto rl
    refine tIf_use (b := !true) (TR_not (TR_tB (PR_call (D := DSame C 5) (PRA_two (PV (σ := [some u, some y, some (.ref q), none, none]) (i := 2) dq) (PR_op RR2_rep3 (PR_lst (PRA_one (PR_tup (PRA_two PR_str (PV (i := 1) dy14)) (sz _ (by simp)))) (sz _ (by simp))) PR_int)) ⟨_, rfl, rfl, rel5⟩))) g14.x.gh fun H15 e15 => iteF (nxt ?_)
    have xx := ((((x3.trans x4).trans x5).trans x6).trans g14.x).trans (extW_same g14.x.gh g14.x.cl e15)
    exact ⟨G14, some y, some (.ref q), rfl, xx, w13.up e15, (((((s3.trans x4.gg).trans x5.gg).trans x6.gg).trans s69).trans s912).trans s14⟩
  · rintro σ H3 ⟨G3, o1, o2, rfl, x3, w3, s3⟩
    have du3 := du.up (x1.gg.trans s3)
    -- _law_held
    refine tAsgLst_use (ds := [.tuple [.str "word", .int 1], .tuple [.str "word", .int 10]]) x3.gh (PRA_two (PR_tup (PRA_two PR_str PR_int) (sz _ (by simp))) (PR_tup (PRA_two PR_str PR_int) (sz _ (by simp)))) (by show 2 ≤ sizeLine; omega) fun vh G4 H4 ph e4 dvh hph => ?_
    obtain ⟨g4, w4⟩ := (GrW.start x3.gh x3.cl).pure w3 w3 e4
    have g5 := g4.new (xs := vh) w3 hph
    have w5 := w4.up (same_new (o := .lst vh) hph)
    have dvh5 : DqAll (joinG G3 G4) vh [.tuple [.str "word", .int 1], .tuple [.str "word", .int 10]] := joinG_all e4.gg dvh
    have du5 := du3.up (joinG_same (G := G3) (G' := G4))
    have hph5 : upd H4 ph (.lst vh) ph = some (.lst vh) := upd_same
    generalize joinG G3 G4 = G5 at g5 dvh5 du5
    generalize upd H4 ph (.lst vh) = H5 at g5 w5 hph5
    -- _law_odds
    refine tAsgLstR_use (ds := oddsD) (v := .ref ph) g5.x.gh (PRAr_cons PR_non (PRAr_cons PR_int (PRAr_cons PR_str (PRAr_cons dic (PRAr_cons (PR_lst (PRA_two (PR_tup (PRA_two PR_str PR_int) (sz _ (by simp))) (PR_lst (PRA_two PR_str PR_int) (sz _ (by simp)))) (sz _ (by simp))) (PRAr_cons (PR_lst (PRA_one (PR_tup (PRA_two PR_str PR_int) (sz _ (by simp)))) (sz _ (by simp)))
      (PRAr_cons (PR_lst (PRA_one (PR_tup (PRA_two PR_str PR_str) (sz _ (by simp)))) (sz _ (by simp))) (PRAr_cons (PR_lst (PRA_one PR_int) (sz _ (by simp))) (PRAr_cons (PR_lst (PRA_one (PR_tup (PRA_one PR_str) (sz _ (by simp)))) (sz _ (by simp))) (PRAr_last rfl)))))))))) (by show 10 ≤ sizeLine; omega) fun vo G6 H6 po e6 dvo hpo => ?_
    obtain ⟨g6, w6⟩ := g5.pure w3 w5 e6
    have g7 := g6.new (xs := vo ++ [.ref ph]) w3 hpo
    have w7 := w6.up (same_new (o := .lst (vo ++ [.ref ph])) hpo)
    have dvo7 : DqAll (joinG G5 G6) vo oddsD := joinG_all e6.gg dvo
    have s57 : Same G5 (joinG G5 G6) := joinG_same
    have du7 := du5.up s57
    have dvh7 := dvh5.up s57
    have hpo7 : upd H6 po (.lst (vo ++ [.ref ph])) po = some (.lst (vo ++ [.ref ph])) := upd_same
    have hph7 : upd H6 po (.lst (vo ++ [.ref ph])) ph = some (.lst vh) := same_new hpo _ _ (e6.hh _ _ hph5)
    generalize joinG G5 G6 = G7 at g7 dvo7 du7 dvh7 s57
    generalize upd H6 po (.lst (vo ++ [.ref ph])) = H7 at g7 w7 hpo7 hph7
    have lo : vo.length = 9 := dvo7.len
    have npo : po ≠ ph := fun z => by have := g7.nd; simp [z] at this
    have mpo : po ∈ [po, ph] := by simp
    have mph : ph ∈ [po, ph] := by simp
    have lxs : (vo ++ [V.ref ph]).length = 10 := by rw [List.length_append, lo]; rfl
    refine ⟨_, rfl, po, rfl, ⟨_, SqL.of hpo7⟩, ?_⟩
    refine for_it (walk_list (K := K) (a := po) (xs := vo ++ [.ref ph])) (fun i σ H' => ∃ (G' : Hp) (o1 o2 : Option V) (acc : List V), σ = [some u, o1, o2, some (.ref ph), some (.ref po)] ∧ GrW W G3 H3 [po, ph] G' H' ∧ WOk W n H' ∧ Same G7 G' ∧ H' po = some (.lst (vo ++ [.ref ph])) ∧ H' ph = some (.lst acc) ∧ (i < 10 → acc = vh))
      ⟨G7, o1, o2, vh, rfl, g7, w7, Same.refl _, hpo7, hph7, fun _ => rfl⟩ ?_ ?_ ?_
    · rintro i σ H' _ ⟨G', o1, o2, acc, _, _, _, _, h, _⟩
      exact SqL.of h
    · rintro i x σ H8 H8' hi ⟨G8, o1, o2, acc, rfl, g8, w8, s8, hpo8, hph8, hacc⟩ ⟨rfl, hx⟩
      rw [lxs] at hi
      have eac := hacc hi
      subst eac
      have du8 := du7.up s8
      have dvh8 := dvh7.up s8
      show tSeq _ _ _ [some u, some x, o2, some (.ref ph), some (.ref po)] H8'
      have tmp := g8.tmp mph hph8
      have dheld : Dq (upd G8 ph (.lst acc)) (.ref ph) heldD := .lst upd_same (dvh8.up tmp.2)
      by_cases h9 : i < 9
      · -- a written one
        rw [List.getElem?_append_left (by rw [lo]; exact h9)] at hx
        obtain ⟨d, hd, dx7⟩ := dvo7.get hx
        have hO := oddsD_is C d (List.mem_of_getElem? hd)
        have dx := dx7.up s8
        refine tSetQ_use ?_
        refine met_D FMs M w8 g8.x.gh g8.x.cl rfl rfl du8 hR hA hf9 dx hO.bad fun H9 p x9 w9 hp => ?_
        have g9 := g8.ext w3 x9
        have e10 : Ext G8 H9 (upd G8 p (.tup [.str "layers", x])) (upd H9 p (.tup [.str "layers", x])) := .new g9.x.gh hp
        obtain ⟨g10, w10⟩ := g9.pure w3 w9 e10
        have dp : Dq (joinG G8 (upd G8 p (.tup [.str "layers", x]))) (.ref p) (.tuple [.str "layers", d]) := joinG_dq e10.gg (.tup upd_same (.cons (.str _) (.cons (dx.up e10.gg) .nil)))
        have s10 : Same G8 (joinG G8 (upd G8 p (.tup [.str "layers", x]))) := joinG_same
        have hpo10 := e10.hh _ _ (grw_keep g8 w3 x9 mpo hpo8)
        have hph10 := e10.hh _ _ (grw_keep g8 w3 x9 mph hph8)
        generalize joinG G8 (upd G8 p (.tup [.str "layers", x])) = G10 at g10 dp s10
        generalize upd H9 p (.tup [.str "layers", x]) = H10 at g10 w10 hpo10 hph10
        have t10 := g10.tmp mph hph10
        have dh10 : Dq (upd G10 ph (.lst acc)) (.ref ph) heldD := .lst upd_same ((dvh8.up s10).up t10.2)
        have dx10 := dx.up s10
        have eqT : TR (tTest (tOp (fun x y H Q => rEqD K x y H Q ∨ rDL x y H Q) (tVar 1) (tVar 3))) [some u, some x, some (.ref p), some (.ref ph), some (.ref po)] (upd G10 ph (.lst acc)) false := by
          rcases hO.ne with rfl | ⟨h1, h2⟩
          · exact TR_test (PR_op (RR2_r RR2_eqDL) (PV (i := 1) (dx10.up t10.2)) (PV (i := 3) dh10))
          · exact TR.eq (TR_test (PR_op (RR2_l (RR2_eq h1 (by decide +kernel))) (PV (i := 1) (dx10.up t10.2)) (PV (i := 3) dh10))) h2
        refine tIf_use eqT t10.1 fun H11 e11 => iteF (nxt ?_)
        have g11 := g10.same w3 e11
        refine tIf_use (b := !true) (TR_not (TR_tB (PR_call (D := DSame C 5) (PRA_two (PV (σ := [some u, some x, some (.ref p), some (.ref ph), some (.ref po)]) (i := 2) dp) (PR_tup (PRA_two PR_str (PV (i := 1) dx10)) (sz _ (by simp)))) ⟨_, rfl, rfl, relPair okLayers hO.rel⟩))) g11.x.gh fun H12 e12 => iteF (nxt ?_)
        exact ⟨G10, some x, some (.ref p), acc, rfl, g11.same w3 e12, (w10.up e11).up e12, s8.trans s10, e12 _ _ (e11 _ _ hpo10), e12 _ _ (e11 _ _ hph10), fun _ => rfl⟩
      · -- the held one
        have i9 : i = 9 := by omega
        subst i9
        rw [List.getElem?_append_right (by omega), lo] at hx
        have ex : V.ref ph = x := by simpa using hx
        subst ex
        have cl8 : Cl W (upd G8 ph (.lst acc)) := fun a o e => by
          by_cases z : a = ph
          · subst z
            rw [upd_same] at e
            cases e
            exact ⟨(g8.off w3 mph).1, (g8.off w3 mph).2, fun _ z => nomatch z⟩
          · rw [upd_ne z] at e; exact g8.x.cl _ _ e
        refine tSetQ_use ?_
        refine met_D FMs M w8 tmp.1 cl8 rfl rfl (du8.up tmp.2) hR hA hf9 dheld heldD_is fun H9 p x9 w9 hp => ?_
        have x9' : ExtW W G8 H8' G8 H9 := ⟨x9.hh, x9.dom, Same.refl _, tmp.2.trans x9.gh, fun _ h => .inl h, g8.x.cl⟩
        have g9 := g8.ext w3 x9'
        have hpo9 := grw_keep g8 w3 x9' mpo hpo8
        have hph9 := grw_keep g8 w3 x9' mph hph8
        have g10 := g9.same w3 (same_new (o := .tup [.str "layers", .ref ph]) hp)
        have w10 := w9.up (same_new (o := .tup [.str "layers", .ref ph]) hp)
        have hp10 : upd H9 p (.tup [.str "layers", .ref ph]) p = some (.tup [.str "layers", .ref ph]) := upd_same
        have hpo10 := same_new (o := .tup [.str "layers", .ref ph]) hp _ _ hpo9
        have hph10 := same_new (o := .tup [.str "layers", .ref ph]) hp _ _ hph9
        have nph : p ≠ ph := fun z => by rw [z, hph9] at hp; cases hp
        generalize upd H9 p (.tup [.str "layers", .ref ph]) = H10 at g10 w10 hp10 hpo10 hph10
        have t10 := g10.tmp mph hph10
        have dh10 : Dq (upd G8 ph (.lst acc)) (.ref ph) heldD := .lst upd_same (dvh8.up t10.2)
        refine tIf_use (b := true) (TR.eq (TR_test (PR_op (RR2_l (RR2_eq (by decide +kernel) (by decide +kernel))) (PV (σ := [some u, some (.ref ph), some (.ref p), some (.ref ph), some (.ref po)]) (i := 1) dh10) (PV (i := 3) dh10))) (by decide +kernel)) t10.1 fun H11 e11 => iteT ?_
        have g11 := g10.same w3 e11
        have la : acc.length = 2 := dvh8.len
        refine put_appendW g11 w3 (w10.up e11) mph rfl (e11 _ _ hph10) (PR_str (x := "late")) (by omega) fun vl G12 H12 g12 w12 s12 dvl h12 keep => ?_
        have hp12 := keep p _ nph (e11 _ _ hp10)
        have hpo12 := keep po _ npo (e11 _ _ hpo10)
        obtain ⟨a1, a2⟩ := same_at g12.x.gh h12
        obtain ⟨b1, b2⟩ := same_at a2 hp12
        have dl : Dq (upd (upd G12 ph (.lst (acc ++ [vl]))) p (.tup [.str "layers", .ref ph])) (.ref ph) (.list ([.tuple [.str "word", .int 1], .tuple [.str "word", .int 10]] ++ [.str "late"])) :=
          .lst (b1 _ _ upd_same) ((((dvh8.up s12).up a1).up b1).snoc ((dvl.up a1).up b1))
        have dp : Dq (upd (upd G12 ph (.lst (acc ++ [vl]))) p (.tup [.str "layers", .ref ph])) (.ref p) (.tuple [.str "layers", .list ([.tuple [.str "word", .int 1], .tuple [.str "word", .int 10]] ++ [.str "late"])]) := .tup upd_same (.cons (.str _) (.cons dl .nil))
        refine tIf_use (b := !true) (TR_not (TR_tB (PR_call (D := DSame C 5) (PRA_two (PV (σ := [some u, some (.ref ph), some (.ref p), some (.ref ph), some (.ref po)]) (i := 2) dp) (PR_tup (PRA_two PR_str (PV (i := 1) dl)) (sz _ (by simp)))) ⟨_, rfl, rfl, nearB_rel C 5 _ (by decide +kernel)⟩))) b2 fun H13 e13 => iteF (nxt ?_)
        exact ⟨G12, some (.ref ph), some (.ref p), _, rfl, g12.same w3 e13, w12.up e13, s8.trans s12, e13 _ _ hpo12, e13 _ _ h12, fun h => absurd h (by omega)⟩
    · rintro σ H8 ⟨G8, o1, o2, acc, rfl, g8, w8, s8, hpo8, hph8, _⟩
      exact kq (.bool true) (.bl true) G8 H8 rfl (x3.trans g8.x) w8 (.bl true)
end
end K50
set_option Elab.async false
set_option linter.all false
set_option maxRecDepth 100000
set_option maxHeartbeats 8000000
/-! K51h: law -/
namespace K50
open PySem PySem.Spec PyProof.Rows L2 PD StX RZ NdefX LamX
theorem le_lim {a c d l : Nat} (h : a + d ≤ l) (hc : c ≤ d) : a + c ≤ l := by omega
theorem le_lim2 {a b c d l : Nat} (h : a + d ≤ l) (hc : b + c ≤ d) : a + b + c ≤ l := by omega
theorem le_nx {i b c d : Nat} (hc : b + c ≤ d) : i * d + b + c ≤ (i + 1) * d := by rw [Nat.succ_mul]; omega
abbrev sLaw : Stmt := top 66
abbrev nLaw : List Str := ["_law_script", "_law_stream_here", "_law_turn", "_law_name", "_law_steps", "_law_puts", "_law_made", "_law_other", "_law_found"]
theorem scLaw : FnScope nLaw ["_law_script"] (defScope sLaw) := ⟨rfl, rfl, rfl, by decide +kernel, rfl, by decide +kernel, by decide +kernel⟩
/-! ### the written protocols -/
def ss1 : List Stp := [⟨0, [], [(.ci, 1), (.la, 0), (.ci, 1)]⟩, ⟨1, [(.ci, 1), (.la, 0), (.ci, 1)], [(.ci, 0)]⟩]
def mm1 : Mnd := .shift 0 1 2
def ss2 : List Stp := [⟨0, [], [(.ci, 1), (.ci, 1), (.la, 0)]⟩, ⟨1, [(.ci, 1), (.ci, 1), (.la, 0)], [(.ci, 0)]⟩]
def mm2 : Mnd := .add 1 1 (.wo, 2)
def ss3 : List Stp := [⟨0, [], [(.ci, 1), (.ci, 1), (.la, 0)]⟩, ⟨1, [(.ci, 1), (.ci, 1), (.la, 0)], [(.ci, 0), (.wo, 2)]⟩]
def ss4 : List Stp := [⟨0, [], []⟩, ⟨0, [(.wo, 1)], []⟩]
instance (l : Lay) : Decidable (okLay l) := by unfold okLay; infer_instance
def fewB (ss : List Stp) : Bool := ss.all fun s => decide (s.tk.length ≤ 3) && decide (s.pt.length ≤ 3)
def formB (ss : List Stp) : Bool := ss.all fun s => decide (s.part ≤ 1) && (decide (s.tk.length ≤ 1000) && (s.tk.all (fun l => decide (okLay l)) && (decide (s.pt.length ≤ 1000) && s.pt.all fun l => decide (okLay l))))
theorem right_by {ss : List Stp} (h0 : ss.isEmpty = false) (h1 : ss.length ≤ 1000) (h2 : formB ss = true) (h3 : wrongFrom 0 ss = none) : Right ss := by
  refine ⟨(fun e => by rw [e] at h0; cases h0), h1, fun s hs => ?_, h3⟩
  have := List.all_eq_true.mp h2 s hs
  simp only [Bool.and_eq_true, decide_eq_true_eq, List.all_eq_true] at this
  exact ⟨this.1, ⟨this.2.1, this.2.2.1⟩, ⟨this.2.2.2.1, this.2.2.2.2⟩⟩
theorem few_by {ss : List Stp} (h : fewB ss = true) : Few 3 ss := fun s hs => by
  have := List.all_eq_true.mp h s hs
  simpa using this
theorem R1 : Right ss1 := right_by rfl (by decide) (by decide +kernel) (by decide +kernel)
theorem R2 : Right ss2 := right_by rfl (by decide) (by decide +kernel) (by decide +kernel)
theorem R4 : Right ss4 := right_by rfl (by decide) (by decide +kernel) (by decide +kernel)
theorem few9 {ss : List Stp} (h : Few 3 ss) : Few 999 ss := fun s hs => by have := h s hs; omega
theorem e12 : mendS ss1 mm1 = ss2 := by decide +kernel
theorem e23 : mendS ss2 mm2 = ss3 := by decide +kernel
theorem f1 : FormM ss1 mm1 := ⟨by decide, by decide +kernel, by decide +kernel, by decide⟩
theorem f2 : FormM ss2 mm2 := ⟨by decide, by decide +kernel, by decide +kernel⟩
section
variable {P : Program} {w : World} {K : PySem.W.Frag} {mg : Str → Option Value} {base : Heap} {G H G' H' : Hp} {C CP CL CM : Addr}
theorem ok_of {x : Str} {st : Stmt} {f : Addr} {fd : FuncData} {k : Nat} {N ps : List Str} {sp : Sp} (F : Fun K x x st f fd) (S : FnScope N ps (defScope st)) (len : ∀ vs H Q E, sp vs H Q E → vs.length = ps.length)
    (hbody : ∀ (cdv : Value) (A : Around) (outer : List Env) (s : Shared) (H : Hp) (vs : List V) (Q : VK) (E : XK), Room k (A.deeper (envOfC x (defScope st) s.heap.objs.size f cdv)) → sp vs H Q E →
      ∃ t, PSs (cxOf CX0 P w K mg base N x (defScope st) f cdv A outer s H E).nox (defBody st) t ∧ t { nx := fun _ H' => Q .non H', rt := Q } (start N vs) H) : FnOk P w K mg base CX0 (k + 1) f fd ps sp := by
  obtain ⟨oc, od, kV, doc, pm, an, cdv, ct, osl, rfl, lk, hcd⟩ := F.ex
  refine fn_of lk hcd S len fun A outer s H vs Q E hr hsp => ?_
  obtain ⟨t, ht, q⟩ := hbody cdv A outer s H vs Q E hr hsp
  exact ⟨t, ht.nox, q⟩
def spLaw (K : PySem.W.Frag) (t : Tb) : Sp := fun vs H Q _ => ∃ (a : Addr) (ns : List Int), vs = [.ref a] ∧ SqL K H a (ns.map V.int) ∧ (∀ p ∈ t.T, H p.1 = some (.tbl #[])) ∧ (∀ p ∈ t.TN, H p.1 = some (.tbl #[])) ∧ ∀ H', Q (.bl true) H'
theorem ok_law {t : Tb} {f : Addr} {fd : FuncData} (F : Fun K "law" "law" sLaw f fd) (PM : ProtoM P w K mg base C)
    (FSt : Fn P w K mg base CX0 "_law_stream" 1 1 (spStream K)) (FGo : FGoing P w K mg base t) (FAn : FAnyP P w K mg base t) (FTr : FTriesL P w K mg base t) (FP : FPR P w K mg base t) (FR : FRef P w K mg base t C)
    (FS : Fn P w K mg base CX0 "_law_same" 7 2 (spP (DSame C 5))) (FG : FGoes P w K mg base C CP) (FMd : FMended P w K mg base C CP CM) (m1 : mg "range" = none) :
    FnOk P w K mg base CX0 16 f fd ["_law_script"] (spLaw K t) := by
  obtain ⟨T, ⟨fi, fdi, hM, hB, hI⟩, hE, ⟨fs, fds, hSm, hSb, hSf⟩⟩ := PM
  refine ok_of F (N := nLaw) (k := 15) scLaw (by rintro vs H Q E ⟨a, ns, rfl, _⟩; rfl) fun cdv A outer s H vs Q E hr hsp => ?_
  obtain ⟨a, ns, rfl, hS, hT, hTN, kq⟩ := hsp
  have hsz : sizeLine = 16777216 := sizeLine_eq
  refine ⟨_, pss_cons (ps_set (i := 1) scLaw.nd rfl (.inl rfl) (pe_fn FSt (hr.mono (by decide)) (by rfl) pass0 (pa_cons (pv 0) pa_nil)))
    (pss_cons (ps_for PassesOwn.never rfl (pi_range1 rfl m1 (pa_cons pe_int pa_nil)) (pg_name (i := 2) scLaw.nd rfl (.inl rfl))
      (pss_cons (ps_asg (pe_ifExp (pt_cmpR op_eq (pe_op op_mod (pv 2) pe_int) pe_int (nomark _)) (pe_tup (pa_cons pe_str (pa_cons (pe_fn FGo (hr.mono (by decide)) (by rfl) pass0 (pa_cons (pv 1) (pa_cons pe_int pa_nil))) pa_nil))) (pe_fn FAn (hr.mono (by decide)) (by rfl) pass0 (pa_cons (pv 1) pa_nil)))
        (pg_tup rfl (pgs_cons (pg_name (i := 3) scLaw.nd rfl (.inl rfl)) (pgs_cons (pg_name (i := 4) scLaw.nd rfl (.inl rfl)) pgs_nil))))
      (pss_one (ps_if (pt_not (pt_val (pe_fn FP hr (by rfl) pass0 (pa_cons (pv 1) (pa_cons (pv 3) (pa_cons (pv 4) (pa_cons (pe_fn FTr (hr.mono (by decide)) (by rfl) pass0 (pa_cons (pv 1) pa_nil)) pa_nil))))))) (pss_one (ps_ret pe_bl)) pss_nil))))
    (pss_cons (ps_set (i := 5) scLaw.nd rfl (.inl rfl) (pe_lst (pa_cons (pe_tup (pa_cons pe_str (pa_cons pe_int pa_nil))) (pa_cons (pe_tup (pa_cons pe_str (pa_cons pe_int pa_nil))) (pa_cons (pe_tup (pa_cons pe_str (pa_cons pe_int pa_nil))) pa_nil)))))
    (pss_cons (ps_set (i := 6) scLaw.nd rfl (.inl rfl) (pe_make hM hI (hr.mono (by decide)) (by rfl) T.gl hB .nil pass0 (pa_cons pe_str (pa_cons (pe_lst (pa_cons (pe_tup (pa_cons pe_int (pa_cons (pe_lst pa_nil) (pa_cons (pv 5) pa_nil)))) (pa_cons (pe_tup (pa_cons pe_int (pa_cons (pv 5) (pa_cons (pe_lst (pa_cons (pe_tup (pa_cons pe_str (pa_cons pe_int pa_nil))) pa_nil)) pa_nil)))) pa_nil))) pa_nil))))
    (pss_cons (ps_set (i := 7) scLaw.nd rfl (.inl rfl) (pe_fn FMd.fn (hr.mono (by decide)) (by rfl) pass_no (pa_cons (pv 6) (pa_cons (pe_tup (pa_cons pe_str (pa_cons pe_int (pa_cons pe_int (pa_cons pe_int pa_nil))))) pa_nil))))
    (pss_cons (ps_set (i := 8) scLaw.nd rfl (.inl rfl) (pe_lst (pa_cons (xe_ixT (K := K) (xe_ixL (K := K) (pe_meth0 (pv 7) T.cl.cl hSm hSf (hr.mono (by decide)) hSb .nil pass0) pe_int) pe_int)
      (pa_cons (xe_ixT (K := K) (xe_ixL (K := K) (pe_meth0 (pe_fn FMd.fn (hr.mono (by decide)) (by rfl) pass_no (pa_cons (pv 7) (pa_cons (pe_tup (pa_cons pe_str (pa_cons pe_int (pa_cons pe_int (pa_cons (pe_tup (pa_cons pe_str (pa_cons pe_int pa_nil))) pa_nil))))) pa_nil))) T.cl.cl hSm hSf (hr.mono (by decide)) hSb .nil pass0) pe_int) pe_int) pa_nil))))
    (pss_cons (ps_if (pt_not (pt_val (pe_fn FS (hr.mono (by decide)) (by rfl) pass0 (pa_cons (pv 8) (pa_cons (pe_lst (pa_cons (pe_lst (pa_cons (pe_tup (pa_cons pe_str (pa_cons pe_int pa_nil))) (pa_cons (pe_tup (pa_cons pe_str (pa_cons pe_int pa_nil))) (pa_cons (pe_tup (pa_cons pe_str (pa_cons pe_int pa_nil))) pa_nil)))) (pa_cons (pe_lst (pa_cons (pe_tup (pa_cons pe_str (pa_cons pe_int pa_nil))) (pa_cons (pe_tup (pa_cons pe_str (pa_cons pe_int pa_nil))) pa_nil))) pa_nil))) pa_nil))))) (pss_one (ps_ret pe_bl)) pss_nil)
    (pss_one (ps_ret (pe_and (pe_cmpR op_eq (pe_fn FG.fn (hr.mono (by decide)) (by rfl) pass_no (pa_cons (pe_make hM hI (hr.mono (by decide)) (by rfl) T.gl hB .nil pass0 (pa_cons pe_str (pa_cons (pe_lst (pa_cons (pe_tup (pa_cons pe_int (pa_cons (pe_lst pa_nil) (pa_cons (pe_lst pa_nil) pa_nil)))) (pa_cons (pe_tup (pa_cons pe_int (pa_cons (pe_lst (pa_cons (pe_tup (pa_cons pe_str (pa_cons pe_int pa_nil))) pa_nil)) (pa_cons (pe_lst pa_nil) pa_nil)))) pa_nil))) pa_nil))) pa_nil)) pe_int (nomark _)) (pe_one (pe_fn FR hr (by rfl) pass0 (pa_cons (pv 6) pa_nil)))))))))))), ?_⟩
  have lz : lim = 1099511627776 := by decide
  -- _law_stream_here
  refine ⟨_, rfl, a, ns.map V.int, rfl, hS, fun ce st h1 h2 h3 => ?_⟩
  have nT : ∀ p ∈ t.T, upd (upd H ce (.lst (ns.map V.int))) st (.lst [.ref ce, .int 0, .int 0, .int 17]) p.1 = some (.tbl #[]) := fun p hp => by
    rw [upd_ne (ne_of_none (hT p hp) h2), upd_ne (ne_of_none (hT p hp) h1)]
    exact hT p hp
  have nTN : ∀ p ∈ t.TN, upd (upd H ce (.lst (ns.map V.int))) st (.lst [.ref ce, .int 0, .int 0, .int 17]) p.1 = some (.tbl #[]) := fun p hp => by
    rw [upd_ne (ne_of_none (hTN p hp) h2), upd_ne (ne_of_none (hTN p hp) h1)]
    exact hTN p hp
  have w0 : WOk ⟨t, st, ce⟩ 0 (upd (upd H ce (.lst (ns.map V.int))) st (.lst [.ref ce, .int 0, .int 0, .int 17])) :=
    ⟨h3.symm, ⟨ns, 0, 17, 0, upd_same, by show upd _ st _ ce = _; rw [upd_ne h3]; exact upd_same, by decide, by decide, by decide, Nat.le_refl _⟩, fun p hp => ⟨⟨_, nT p hp⟩, TabX.nil (nT p hp)⟩, fun p hp => TabN.nil (nTN p hp)⟩
  generalize hW : (⟨t, st, ce⟩ : Wl) = W at w0
  have eWt : W.t = t := by rw [← hW]
  have eWs : W.st = st := by rw [← hW]
  subst eWt eWs
  generalize upd (upd H ce (.lst (ns.map V.int))) W.st (.lst [.ref ce, .int 0, .int 0, .int 17]) = H0 at w0
  have x0 : ExtW W (fun _ => none) H0 (fun _ => none) H0 := .refl (fun _ _ z => by cases z) (fun _ _ z => by cases z)
  -- for _law_turn in range(4)
  refine ⟨4, rfl, by decide, by decide, ?_⟩
  refine for_range (lo := 0) (n := 4) (fun i σ H1 => ∃ (G1 : Hp) (o2 o3 o4 : Option V), σ = [some (.ref a), some (.ref W.st), o2, o3, o4, none, none, none, none] ∧ ExtW W (fun _ => none) H0 G1 H1 ∧ WOk W (i * 2000000) H1) ?_ ?_ ?_
  · exact ⟨_, none, none, none, rfl, x0, w0⟩
  · rintro i σ H1 hi ⟨G1, o2, o3, o4, rfl, x1, w1⟩
    have hl : i * 2000000 + 2000000 ≤ lim := by omega
    rw [show (0 : Int) + (i : Int) = (i : Int) from Int.zero_add _]
    have key : PN W (tIf (tTest (tOp rEq (tOp (rI (fun _ j => 0 < j) fun i j => .int (i % j)) (tVar 2) (tC (.int 2))) (tC (.int 0)))) (tTup (tCons (tC (.str "greet")) (tCons (tCall (spS W.t (fun _ => 100) (· = [.int (4 : Nat)]) DGoing) [] E0 (tCons (tVar 1) (tCons (tC (.int 4)) tNil))) tNil))) (tCall (spS W.t (fun _ => 200) (· = []) DAnyP) [] E0 (tCons (tVar 1) tNil)))
        [some (.ref a), some (.ref W.st), some (.int i), o3, o4, none, none, none, none] G1 200 (fun d => ∃ nm ss, d = .tuple [.str nm, encSS ss] ∧ AgentN nm ∧ Right ss ∧ ss.length ≤ 4 ∧ Few 3 ss) := by
      refine PN_if (b := decide ((i : Int) % 2 = 0)) (TR_test (PR_op RR2_eqI (PR_op (RR2_I (C := fun _ j => 0 < j) (by decide)) (PV (i := 2) (.int _)) PR_int) PR_int)) (fun _ => ?_) fun _ => ?_
      · refine (PN_tup (PNA_cons (PN_of PR_str) (PNA_cons (c1 := 0 + 100) (D := fun d => ∃ ss, d = encSS ss ∧ Right ss ∧ ss.length ≤ 4 ∧ Few 3 ss) (PN_callS (i := 1) (c2 := 100) (DS := (· = [.int (4 : Nat)])) rfl (PNA_of (PRA_one PR_int)) fun ds e => ⟨e, Nat.le_refl _, fun d h => h⟩) PNA_nil)) fun ds ⟨a, as, e1, e2, b, bs, e3, ⟨ss, e4, h1, h2, h3⟩, e5⟩ => ?_).imp (by omega) fun _ h => h
        subst e1 e2 e3 e4 e5
        exact ⟨by show 2 ≤ sizeLine; omega, "greet", ss, rfl, ⟨by decide +kernel, by decide +kernel, by decide +kernel, ⟨by decide +kernel, by simp [PyData.depth]⟩⟩, h1, h2, h3⟩
      · refine (PN_callS (i := 1) (c2 := 200) (DS := (· = [])) rfl PNA_nil fun ds e => ⟨e, Nat.le_refl _, fun d ⟨ss, _, e2, h1, h2, h3⟩ => ?_⟩).imp (by omega) fun _ h => h
        exact ⟨"longname", ss, e2, ⟨by decide +kernel, by decide +kernel, by decide +kernel, ⟨by decide +kernel, by simp [PyData.depth]⟩⟩, h1, h2, h3⟩
    refine tAsg_useN key x1.gh x1.cl w1 (le_lim hl (by decide)) fun d v0 G2 H2 ⟨nm, ss, e, hA, hR, hl4, hf⟩ x2 w2 dv0 => ?_
    subst e
    refine gp2 v0 G2 H2 _ dv0 x2.gh fun σ' ⟨v3, v4, d3, d4, eσ⟩ => ?_
    subst eσ
    have key2 : PN W (tCall (spS W.t (fun _ => 1000000) prPR DTrue) [] E0 (tCons (tVar 1) (tCons (tVar 3) (tCons (tVar 4) (tCons (tCall (spS W.t (fun _ => 12) (· = []) DTriesL) [] E0 (tCons (tVar 1) tNil)) tNil)))))
        [some (.ref a), some (.ref W.st), some (.int i), some v3, some v4, none, none, none, none] G2 1500000 (· = .bool true) :=
      (PN_callS (i := 1) (c2 := 1000000) (DS := fun l => ∃ x xs, l = x :: xs ∧ x = .str nm ∧ ∃ y ys, xs = y :: ys ∧ y = encSS ss ∧ ∃ z zs, ys = z :: zs ∧ (∃ ls, z = .list (ls.map encL) ∧ TryLs ls) ∧ zs = []) rfl (PNA_cons (PN_of (PV (i := 3) d3)) (PNA_cons (PN_of (PV (i := 4) d4)) (PNA_cons (c1 := 0 + 12) (PN_callS (i := 1) (c2 := 12) (DS := (· = [])) rfl PNA_nil fun ds e => ⟨e, Nat.le_refl _, fun d ⟨ls, _, e2, h⟩ => ⟨ls, e2, h⟩⟩) PNA_nil)))
        fun ds ⟨x, xs, e1, e2, y, ys, e3, e4, z, zs, e5, ⟨ls, e6, hT⟩, e7⟩ => by
          subst e1 e2 e3 e4 e5 e6 e7
          exact ⟨⟨nm, ss, ls, rfl, ⟨hR, hl4, hf, hT⟩, hA⟩, Nat.le_refl _, fun d h => h⟩).imp (by omega) fun _ h => h
    have b1 := TN_not (TN_tB (B := (· = true)) key2 fun d h => ⟨true, h, rfl⟩)
    refine tIfN_use x2.gh x2.cl w2 (le_lim2 hl (by decide)) (TN.imp b1 (Nat.le_refl _) fun b h => by simpa using h) fun b G6 H6 (hb : b = false) x6 w6 => ?_
    subst hb
    refine iteF (nxt ?_)
    exact ⟨G6, some (.int i), some v3, some v4, rfl, (x1.trans x2).trans x6, w6.mono (le_nx (by decide))⟩
  · rintro σ H1 ⟨G1, o2, o3, o4, rfl, x1, w1⟩
    have sz : ∀ k : Nat, k ≤ 100 → k ≤ sizeLine := fun k h => by omega
    have lay : ∀ (l : Lay) {σ : L2.St} {G : Hp}, PR (tTup (tCons (tC (.str l.1.str)) (tCons (tC (.int l.2)) tNil))) σ G (encL l) := fun l σ G => PR_tup (PRA_two PR_str PR_int) (sz _ (by simp))
    have hA : AgentN "strong" := ⟨by decide +kernel, by decide +kernel, by decide +kernel, ⟨by decide +kernel, by simp [PyData.depth]⟩⟩
    have hX : AgentN "x" := ⟨by decide +kernel, by decide +kernel, by decide +kernel, ⟨by decide +kernel, by simp [PyData.depth]⟩⟩
    have hF1 : Few 3 ss1 := few_by (by decide +kernel)
    have hF2 : Few 3 ss2 := few_by (by decide +kernel)
    -- _law_puts
    refine tSet_use (d := .list (([(.ci, 1), (.la, 0), (.ci, 1)] : List Lay).map encL)) x1.gh (PR_lst (PRA_cons (lay (.ci, 1)) (PRA_two (lay (.la, 0)) (lay (.ci, 1)))) (sz _ (by simp))) fun v5 G2 H2 e2 d5 => ?_
    -- _law_made
    refine tSet_use e2.gh (PR_make (n := "strong") (ss := ss1) (rs := encSS ss1) (PRA_two PR_str (PR_lst (PRA_two (PR_tup (PRA_cons PR_int (PRA_two (PR_lst PRA_nil (sz _ (by simp))) (PV (i := 5) d5))) (sz _ (by simp))) (PR_tup (PRA_cons PR_int (PRA_two (PV (i := 5) d5) (PR_lst (PRA_one (lay (.ci, 0))) (sz _ (by simp))))) (sz _ (by simp)))) (sz 2 (by decide)))) (lzSS_enc _) R1 hA) fun v6 G3 H3 e3 d6 => ?_
    -- _law_other
    refine tSet_use (d := protoD C "strong" ss2) e3.gh ((PR_mended (m := mm1) (a := encM mm1) R1 hA (few9 hF1) f1 (by rw [e12]; decide +kernel) (lzM_enc _) (PRA_two (PV (i := 6) d6) (PR_tup (PRA_cons PR_str (PRA_cons PR_int (PRA_two PR_int PR_int))) (sz _ (by simp))))).eq (by rw [e12])) fun v7 G4 H4 e4 d7 => ?_
    -- _law_found
    have st2 : ∀ {σ : L2.St} {G : Hp} {te : TE}, PR te σ G (protoD C "strong" ss2) → PR (tOp (rIxT K) (tOp (rIxL K) (tMeth C "steps" (spP (DSteps C)) [] E0 te tNil) (tC (.int 1))) (tC (.int 1))) σ G (.list (([(.ci, 1), (.ci, 1), (.la, 0)] : List Lay).map encL)) := fun h =>
      PR_op (RR2_ixT (j := 1) rfl) (PR_op (d := encS ⟨1, [(.ci, 1), (.ci, 1), (.la, 0)], [(.ci, 0)]⟩) (RR2_ixL (j := 1) rfl) (PR_stepsM h (by decide)) PR_int) PR_int
    have st3 : ∀ {σ : L2.St} {G : Hp} {te : TE}, PR te σ G (protoD C "strong" ss3) → PR (tOp (rIxT K) (tOp (rIxL K) (tMeth C "steps" (spP (DSteps C)) [] E0 te tNil) (tC (.int 1))) (tC (.int 2))) σ G (.list (([(.ci, 0), (.wo, 2)] : List Lay).map encL)) := fun h =>
      PR_op (RR2_ixT (j := 2) rfl) (PR_op (d := encS ⟨1, [(.ci, 1), (.ci, 1), (.la, 0)], [(.ci, 0), (.wo, 2)]⟩) (RR2_ixL (j := 1) rfl) (PR_stepsM h (by decide)) PR_int) PR_int
    refine tSet_use (d := .list [.list (([(.ci, 1), (.ci, 1), (.la, 0)] : List Lay).map encL), .list (([(.ci, 0), (.wo, 2)] : List Lay).map encL)]) e4.gh (PR_lst (PRA_two (st2 (PV (i := 7) d7)) (st3 ((PR_mended (m := mm2) (a := encM mm2) R2 hA (few9 hF2) f2 (by rw [e23]; decide +kernel) (lzM_enc _) (PRA_two (PV (i := 7) d7) (PR_tup (PRA_cons PR_str (PRA_cons PR_int (PRA_two PR_int (lay (.wo, 2))))) (sz _ (by simp))))).eq (by rw [e23])))) (sz _ (by simp))) fun v8 G5 H5 e5 d8 => ?_
    refine tIf_use (b := !true) (TR_not (TR_tB (PR_call (D := DSame C 5) (PRA_two (PV (σ := [some (.ref a), some (.ref W.st), o2, o3, o4, some v5, some v6, some v7, some v8]) (i := 8) d8) (PR_lst (PRA_two (PR_lst (PRA_cons (lay (.ci, 1)) (PRA_two (lay (.ci, 1)) (lay (.la, 0)))) (sz _ (by simp))) (PR_lst (PRA_two (lay (.ci, 0)) (lay (.wo, 2))) (sz _ (by simp)))) (sz _ (by simp)))) ⟨_, rfl, rfl, nearB_rel C 5 _ (by decide +kernel)⟩))) e5.gh fun H6 e6 => iteF (nxt ?_)
    have d66 := (d6.up e4.gg).up e5.gg
    have eAll := ((e2.trans e3).trans (e4.trans e5)).trans (Ext.more e5.gh e6)
    have x6 := eAll.w x1.cl w1
    have w6 := w1.up eAll.hh
    have d6x := joinG_dq eAll.gg d66
    dsimp only
    refine (PR_op RR2_eqI (PR_goes (n := "x") (ss := ss4) (PRA_one (PR_make (rs := encSS ss4) (PRA_two PR_str (PR_lst (PRA_two (PR_tup (PRA_cons PR_int (PRA_two (PR_lst PRA_nil (sz _ (by simp))) (PR_lst PRA_nil (sz _ (by simp))))) (sz _ (by simp))) (PR_tup (PRA_cons PR_int (PRA_two (PR_lst (PRA_one (lay (.wo, 1))) (sz _ (by simp))) (PR_lst PRA_nil (sz _ (by simp))))) (sz _ (by simp)))) (sz 2 (by decide)))) (lzSS_enc _) R4 hX)) R4.short) PR_int) H6 _ x6.gh fun v9 G7 H7 e7 d9 => ?_
    have x7 := e7.w x6.cl w6
    have w7 := w6.up e7.hh
    cases d9
    refine ⟨true, rfl, iteT ?_⟩
    refine (PN_call (W := W) (c1 := 0) (c2 := 0) (DS := (· = [protoD C "strong" ss1])) (D := (· = .bool true)) (PNA_of (PRA_one (PV (i := 6) (d6x.up (joinG_same (G' := G7)))))) fun ds e => by
      subst e
      exact ⟨⟨"strong", ss1, rfl, R1, hA, few9 hF1⟩, Nat.le_refl _, fun d h => h⟩) H7 _ _ x7.gh x7.cl w7 (by omega) fun d v G8 H8 hd x8 w8 dv => ?_
    subst hd
    cases dv
    exact kq H8
end
end K50
set_option Elab.async false
set_option linter.all false
set_option maxRecDepth 100000
set_option maxHeartbeats 8000000
/-! K51i: all defs together -/
namespace K50
open PySem PySem.Spec PyProof.Rows L2 PD StX RZ NdefX LamX
/-- a method's text -/
structure Mth (K : PySem.W.Frag) (C : Addr) (m q : Str) (st : Stmt) : Prop where
  ex : ∃ (f : Addr) (fd : FuncData), Meth K C m f ∧ Fun K m q st f fd
/-- an exception's class -/
structure Exc (K : PySem.W.Frag) (mg : Str → Option Value) (C : Addr) (x f q : Str) (st : Stmt) : Prop where
  oex : OexC K C
  gC : mg x = some (.ref C)
  ini : ∃ (fI : Addr) (fd : FuncData), PySem.W.findIn K (.ref C) "__init__" = some (some (.ref fI)) ∧ PySem.W.typeIn K (.ref fI) = some (.type "function") ∧ Fun K "__init__" q st fI fd
  xf : XfC K C
  no : PySem.W.findIn K (.ref C) f = some none
/-- the program's text as it stands -/
structure Txt (K : PySem.W.Frag) (mg : Str → Option Value) (CP CL CM C aW aK c1 c2 : Addr) : Prop where
  b : ∀ x ∈ (["isinstance", "list", "tuple", "all", "enumerate", "str", "sorted", "len", "any", "abs", "int", "range", "zip", "dict", "bool", "min", "max", "repr"] : List Str), mg x = none
  isInt : Df K mg "is_integer" sIsInt
  isNum : Df K mg "is_number" sIsNum
  isList : Df K mg "is_list" sIsList
  isRow : Df K mg "is_row" sIsRow
  unlike : Df K mg "are_unlike" sUnlike
  isAgent : Df K mg "is_agent" sIsAgent
  isWord : Df K mg "is_word" sIsWord
  isPart : Df K mg "is_part" sIsPart
  isPL : Df K mg "is_part_layer" sIsPL
  arePL : Df K mg "are_part_layers" sArePL
  isStep : Df K mg "is_step" sIsStep
  wrong : Df K mg "first_wrong_step" sWrong
  keptL : Df K mg "kept_layers" sKeptL
  check : Df K mg "check_protocol" sCheck
  stop : Df K mg "first_stop" sStop
  goes : Df K mg "goes_on" sGoes
  room : Df K mg "room" sRoom
  form : Df K mg "is_mend_form" sForm
  withL : Df K mg "with_layer" sWithL
  mendS : Df K mg "mended_steps" sMendS
  keptM : Df K mg "kept_mend" sKeptM
  mendBy : Df K mg "mended_by" sMendBy
  mended : Df K mg "mended" sMended
  tries : Df K mg "checked_tries" sTries
  allM : Df K mg "all_mends" sAllM
  mends : Df K mg "mends" sMends
  strm : Df K mg "_law_stream" sStrm
  draw : Df K mg "_law_draw" sDraw
  pick : Df K mg "_law_pick" sPick
  mixed : Df K mg "_law_mixed" sMixed
  loose : Df K mg "_law_loose" sLoose
  same : Df K mg "_law_same" sSame
  stepL : Df K mg "_law_step" sStepL
  spoilt : Df K mg "_law_spoilt" sSpoilt
  going : Df K mg "_law_going" sGoing
  roomL : Df K mg "_law_room" sRoomL
  areL : Df K mg "_law_are_steps" sAreL
  putL : Df K mg "_law_put_in" sPutL
  mendL : Df K mg "_law_mended" sMendL
  allL : Df K mg "_law_all_mends" sAllL
  stopL : Df K mg "_law_stop" sStopL
  numL : Df K mg "_law_is_number" sNumL
  met : Df K mg "_law_met" sMet
  anyP : Df K mg "_law_any_protocol" sAnyP
  triesL : Df K mg "_law_tries" sTriesL
  isMend : Df K mg "_law_is_mend" sIsMend
  near : Df K mg "_law_near" sNear
  pr : DfC K mg "_law_protocol_right" sPR c1
  ref : DfC K mg "_law_refused_right" sRef c2
  prX : Exc K mg CP "BadProtocol" "protocol" "BadProtocol.__init__" iBadP
  laX : Exc K mg CL "BadLayers" "layers" "BadLayers.__init__" iBadL
  meX : Exc K mg CM "BadMend" "mend" "BadMend.__init__" iBadM
  pp : PySem.W.exmOne K (.ref CP) (.ref CP) = some true
  lp : PySem.W.exmOne K (.ref CL) (.ref CP) = some false
  ll : PySem.W.exmOne K (.ref CL) (.ref CL) = some true
  mp : PySem.W.exmOne K (.ref CM) (.ref CP) = some false
  ml : PySem.W.exmOne K (.ref CM) (.ref CL) = some false
  mm : PySem.W.exmOne K (.ref CM) (.ref CM) = some true
  pro : TProto K mg C
  mkI : ∃ fi fd, Mk K C fi ∧ Fun K "__init__" "Proto.__init__" iInit fi fd
  eq : Mth K C "__eq__" "Proto.__eq__" iEq
  steps : Mth K C "steps" "Proto.steps" iSteps
  ag : TAgent K mg aW
  kinds : TKinds K mg aK
section
variable {P : Program} {w : World} {K : PySem.W.Frag} {mg : Str → Option Value} {base : Heap} {CP CL CM C aW aK c1 c2 T1 T2 : Addr}
abbrev tb50 (T1 T2 : Addr) : Tb := ⟨[(T1, [qPR]), (T2, [qRef])], []⟩
theorem Exc.xcl {x f q : Str} {st : Stmt} (e : Exc K mg C x f q st) (h : ∀ fI fd, Fun K "__init__" q st fI fd → FnOk P w K mg base CX0 1 fI fd ["self", f] (spI C f)) (hb : ∀ (kV doc pm : Value) (an : Option Addr) (cdv ct : Value) (us : List Value), us.length = 2 → bindArgs (PySem.W.fnOf "__init__" q (defArgs st) (defBody st) (defScope st) .none kV doc pm an cdv ct) ⟨us, []⟩ = pure ((["self", f] : List Str).zip us)) : Xcl P w K mg base C x f := by
  obtain ⟨fI, fd, h1, h2, h3⟩ := e.ini
  exact ⟨e.oex, e.gC, ⟨fI, fd, ["self", f], h1, h2, h3.binds hb, h fI fd h3⟩, e.xf, e.no⟩
theorem law_of {fa : Addr} {fd : FuncData} (t : Txt K mg CP CL CM C aW aK c1 c2) (hne : T1 ≠ T2) (F : Fun K "law" "law" sLaw fa fd)
    (b1 : TabB base mg c1 T1) (b2 : TabB base mg c2 T2) : FnOk P w K mg base CX0 16 fa fd ["_law_script"] (spLaw K (tb50 T1 T2)) := by
  have B : ∀ x, x ∈ (["isinstance", "list", "tuple", "all", "enumerate", "str", "sorted", "len", "any", "abs", "int", "range", "zip", "dict", "bool", "min", "max", "repr"] : List Str) → mg x = none := fun x hx => t.b x hx
  have b_isinstance := B "isinstance" (by simp)
  have b_list := B "list" (by simp)
  have b_tuple := B "tuple" (by simp)
  have b_all := B "all" (by simp)
  have b_enumerate := B "enumerate" (by simp)
  have b_str := B "str" (by simp)
  have b_sorted := B "sorted" (by simp)
  have b_len := B "len" (by simp)
  have b_any := B "any" (by simp)
  have b_abs := B "abs" (by simp)
  have b_int := B "int" (by simp)
  have b_range := B "range" (by simp)
  have b_zip := B "zip" (by simp)
  have b_dict := B "dict" (by simp)
  have b_bool := B "bool" (by simp)
  have b_min := B "min" (by simp)
  have b_max := B "max" (by simp)
  have b_repr := B "repr" (by simp)
  have M1 : MkT (tb50 T1 T2) base mg c1 T1 [qPR] := ⟨b1, by simp, fun p hp e => by
    simp only [List.mem_cons, List.not_mem_nil, or_false] at hp
    rcases hp with rfl | rfl
    · rfl
    · exact absurd e.symm hne, fun p hp => by cases hp⟩
  have M2 : MkT (tb50 T1 T2) base mg c2 T2 [qRef] := ⟨b2, by simp, fun p hp e => by
    simp only [List.mem_cons, List.not_mem_nil, or_false] at hp
    rcases hp with rfl | rfl
    · exact absurd e hne
    · rfl, fun p hp => by cases hp⟩
  have XP : Xcl P w K mg base CP "BadProtocol" "protocol" := t.prX.xcl (fun fI fd F => ini_P F t.prX.oex t.prX.no) fun _ _ _ _ _ _ us hl => match us, hl with | [_, _], _ => rfl
  have XL : Xcl P w K mg base CL "BadLayers" "layers" := t.laX.xcl (fun fI fd F => ini_L F t.laX.oex t.laX.no) fun _ _ _ _ _ _ us hl => match us, hl with | [_, _], _ => rfl
  have XM : Xcl P w K mg base CM "BadMend" "mend" := t.meX.xcl (fun fI fd F => ini_M F t.meX.oex t.meX.no) fun _ _ _ _ _ _ us hl => match us, hl with | [_, _], _ => rfl
  have F1 := fn_isInt (P := P) (w := w) (base := base) t.isInt b_isinstance b_int b_bool
  have F2 := fn_isNum t.isNum F1
  have F3 := fn_isList (P := P) (w := w) (base := base) t.isList b_isinstance b_list b_tuple
  have F4 := fn_isRow t.isRow F3 b_len
  have F5 := fn_unlike (P := P) (w := w) (base := base) t.unlike b_all b_enumerate
  have F6 := fn_isAgent (P := P) (w := w) (base := base) t.isAgent t.ag b_isinstance b_str b_len b_all
  have F7 := fn_isWord t.isWord F4 F1 b_isinstance b_str
  have F8 := fn_isPart t.isPart F2
  have F9 := fn_isPL t.isPL t.kinds F7 F4 F8 b_isinstance b_str
  have F10 := fn_arePL t.arePL F3 F9 b_all
  have F11 := fn_isStep t.isStep F4 F8 F10 b_any b_tuple
  have F12 := fn_wrong t.wrong F3 F11 b_len b_enumerate
  have F13 := fn_keptL (P := P) (w := w) (base := base) t.keptL b_tuple
  have MK : MkP P w K mg base C := by
    obtain ⟨fi, fdi, h1, h2⟩ := t.mkI
    exact ⟨fi, fdi, h1, h2.binds fun _ _ _ _ _ _ us hl => match us, hl with | [_, _, _], _ => rfl, ok_init t.pro F6 F12 F13 fi fdi h2⟩
  have EQ : ∃ f fd, PySem.W.findIn K (.ref C) "__eq__" = some (some (.ref f)) ∧ PySem.W.isFn K (.ref f) = true ∧ Binds K fd ["self", "other"] [] ∧ FnOk P w K mg base CX0 1 f fd ["self", "other"] (spP (DEq C)) := by
    obtain ⟨f, fd, h1, h2⟩ := t.eq.ex
    exact ⟨f, fd, h1.at_, h1.fn, h2.binds fun _ _ _ _ _ _ us hl => match us, hl with | [_, _], _ => rfl, ok_eq t.pro b_isinstance f fd h2⟩
  have PM : ProtoM P w K mg base C := ⟨t.pro, MK, EQ, by
    obtain ⟨f, fd, h1, h2⟩ := t.steps.ex
    exact ⟨f, fd, h1, h2.binds fun _ _ _ _ _ _ us hl => match us, hl with | [_], _ => rfl, ok_steps t.pro b_list f fd h2⟩⟩
  have F14 := fn_check t.check t.pro XP b_isinstance
  have F15 := fn_stop (P := P) (w := w) (base := base) t.stop t.pro b_len b_enumerate
  have F16 := fn_goes t.goes F14 F15
  have F17 := fn_room (P := P) (w := w) (base := base) t.room b_len b_min
  have F18 := fn_form t.form F4 F2 F9 F17 b_isinstance b_str b_len
  have F19 := fn_withL (P := P) (w := w) (base := base) t.withL
  have F20 := fn_mendS t.mendS F19 b_len b_list
  have F21 := fn_keptM (P := P) (w := w) (base := base) t.keptM b_tuple
  have F22 := fn_mendBy t.mendBy t.pro MK F18 F21 F20 F12
  have F23 := fn_mended t.mended F14 F22 XM
  have F24 := fn_tries t.tries F10 F13 F5 XL b_sorted
  have F25 := fn_all t.allM t.pro F17 F22 b_len b_range EQ
  have F26 := fn_mends t.mends F14 F24 F25
  have L1 := fn_stream (P := P) (w := w) (base := base) t.strm b_list
  have L2 := fn_draw (P := P) (w := w) (base := base) (t := tb50 T1 T2) t.draw b_abs b_int
  have L3 := fn_pick t.pick L2 b_len
  have L4 := fn_mixed t.mixed L2 b_list b_range b_len
  have L5 := fn_loose t.loose L2 b_isinstance b_list b_tuple 4
  have L6 := fn_same (P := P) (w := w) (base := base) t.pro EQ t.same b_isinstance b_list b_tuple b_len b_all b_zip b_dict b_bool 5
  have L7 := fn_stepL t.stepL L2 L3 b_range
  have L8 := fn_spoilt (P := P) (w := w) (base := base) t.spoilt b_isinstance b_list b_tuple 3
  have L9 := fn_going t.going L2 L3 b_range b_min b_max b_len
  have L10 := fn_roomL (P := P) (w := w) (base := base) t.roomL b_len b_min
  have L11 := fn_areL (P := P) (w := w) (base := base) t.areL b_enumerate
  have L12 := fn_putL (P := P) (w := w) (base := base) t.putL
  have L13 := fn_mendL t.mendL L12 L11 b_len b_list
  have L14 := fn_allL t.allL L10 L13 b_len b_range b_sorted
  have L15 := fn_stopL (P := P) (w := w) (base := base) t.stopL b_len b_enumerate
  have L16 := fn_numL (P := P) (w := w) (base := base) t.numL b_isinstance b_int b_bool
  have ER : Errs K mg CP CL CM := ⟨t.prX.xf, t.laX.xf, t.meX.xf, t.prX.no, t.laX.no, t.meX.no, t.prX.gC, t.laX.gC, t.meX.gC, t.pp, t.lp, t.ll, t.mp, t.ml, t.mm⟩
  have L17 := fn_met (P := P) (w := w) (base := base) (k := 13) t.met ER
  have L18 := fn_anyP t.anyP L2 L7 b_range
  have L19 := fn_triesL t.triesL L2 L3 L4
  have L20 := fn_isMend t.isMend L16 L10 L13 b_isinstance b_list b_tuple b_len b_str b_max
  have L21 := fn_near t.near L2 L3 L10 L4 b_range b_len b_list
  have L22 := fn_pr t.pr M1 PM L5 L6 L8 L14 L15 F16 F26 F23 L21 L20 L13 L17 b_repr b_all b_tuple
  have L23 := fn_ref t.ref M2 L6 F16 F26 F23 L17
  exact ok_law F PM L1 L9 L18 L19 L22 L23 L6 F16 F23 b_range
end
end K50
open PySem PySem.W PyProof.Rows
set_option Elab.async false
set_option linter.all false
set_option maxRecDepth 100000
set_option maxHeartbeats 0
open_top hd50 for PySem.Challenge.rw_roadheld_k50_whole_mends_made
namespace K50
open PySem PySem.Spec PyProof.Rows L2 PD StX RZ NdefX LamX
section
variable {w : World} {K : PySem.W.Frag} {mg : Str → Option Value} {h : Heap}
theorem df_mk {x : Str} {st : Stmt} {f : Addr} {od an : Option Addr} {osl : Array (Option Value)} {oc kV doc pm cdv ct : Value} (X : K.In h) (G : h.Ns mainGlobals mg) (a1 : PySem.W.nsIn K mainGlobals x = some (some (.ref f)))
    (a2 : K.lookup f = some ⟨oc, od, .func (PySem.W.fnOf x x (defArgs st) (defBody st) (defScope st) .none kV doc pm an cdv ct), osl⟩) (a3 : PySem.W.codeIn K cdv x = true) (a4 : PySem.W.keepIn K (.ref f) = true) : Df K mg x st :=
  ⟨f, _, PySem.W.mg_of X G a1, fun_mk a2 a3 a4⟩
theorem dfc_mk {x : Str} {st : Stmt} {f c : Addr} {od an : Option Addr} {osl : Array (Option Value)} {oc kV doc pm ct : Value} (X : K.In h) (G : h.Ns mainGlobals mg) (a1 : PySem.W.nsIn K mainGlobals x = some (some (.ref f)))
    (a2 : K.lookup f = some ⟨oc, od, .func (PySem.W.fnOf x x (defArgs st) (defBody st) (defScope st) .none kV doc pm an (.ref c) ct), osl⟩) (a3 : PySem.W.codeIn K (.ref c) x = true) (a4 : PySem.W.keepIn K (.ref f) = true) : DfC K mg x st c :=
  ⟨f, _, PySem.W.mg_of X G a1, fun_mk a2 a3 a4, rfl⟩
theorem mth_mk {C f : Addr} {m q : Str} {st : Stmt} {od an : Option Addr} {osl : Array (Option Value)} {oc kV doc pm cdv ct : Value} (a1 : PySem.W.findIn K (.ref C) m = some (some (.ref f))) (a0 : PySem.W.isFn K (.ref f) = true)
    (a2 : K.lookup f = some ⟨oc, od, .func (PySem.W.fnOf m q (defArgs st) (defBody st) (defScope st) .none kV doc pm an cdv ct), osl⟩) (a3 : PySem.W.codeIn K cdv q = true) (a4 : PySem.W.keepIn K (.ref f) = true) : Mth K C m q st :=
  ⟨f, _, ⟨a1, a0, a4⟩, fun_mk a2 a3 a4⟩
theorem exc_mk {C fI : Addr} {x fld q : Str} {st : Stmt} {nm qq : Str} {N : Addr} {bs bm : List Value} {sn : List Str} {sub : List Value} {ab : Bool} {col : Option Bool} {dd : Option Addr} {m0 m1 m2 m3 m5 : Option Value} {od an : Option Addr} {osl : Array (Option Value)} {oc kV doc pm cdv ct : Value} (X : K.In h) (G : h.Ns mainGlobals mg)
    (aC : PySem.W.nsIn K mainGlobals x = some (some (.ref C))) (xL : K.lookup C = some (excClassObj nm qq C N bs bm true sn sub ab col dd m0 m1 m2 m3 m5 "ValueError.__new__")) (rv : PySem.HandSPX.refsVE bm = true) (sa : PySem.W.findIn K (.ref C) "__setattr__" = some (some (.builtin "object.__setattr__"))) (ga : PySem.W.findIn K (.ref C) "__getattribute__" = some (some (.builtin "BaseException.__getattribute__")))
    (gg : PySem.W.findIn K (.ref C) "__getattr__" = some none) (nb : PySem.W.findIn K (.ref C) fld = some none) (i1 : PySem.W.findIn K (.ref C) "__init__" = some (some (.ref fI))) (t1 : PySem.W.typeIn K (.ref fI) = some (.type "function"))
    (a2 : K.lookup fI = some ⟨oc, od, .func (PySem.W.fnOf "__init__" q (defArgs st) (defBody st) (defScope st) .none kV doc pm an cdv ct), osl⟩) (a3 : PySem.W.codeIn K cdv q = true) (a4 : PySem.W.keepIn K (.ref fI) = true)
    (kC : PySem.W.keepIn K (.ref C) = true) (eC : PySem.W.subIn K (.ref C) (.type "BaseException") = some true) (tC : PySem.W.typeIn K (.ref C) = some (.type "type")) (hC : PySem.W.hasDictIn K C = true) : Exc K mg C x fld q st :=
  ⟨⟨⟨nm, qq, N, bs, bm, sn, sub, ab, col, dd, m0, m1, m2, m3, m5, xL, rv⟩, sa, eC, tC, kC⟩, PySem.W.mg_of X G aC, ⟨fI, _, i1, t1, fun_mk a2 a3 a4⟩, ⟨ga, gg, eC, hC⟩, nb⟩
def strOf? : Value → Option Str
  | .str x _ => some x
  | _ => none
theorem vals_of : ∀ (us : List Value) (xs : List Str), us.map strOf? = xs.map some → Vals (xs.map .str) us
  | [], [], _ => .nil
  | u :: us, x :: xs, e => by
    simp only [List.map_cons, List.cons.injEq] at e
    have hu : ∃ t, u = .str x t := by
      cases u <;> simp [strOf?] at e
      exact ⟨_, by rw [e.1]⟩
    exact .cons hu (vals_of us xs e.2)
  | _ :: _, [], e => by cases e
  | [], _ :: _, e => by cases e
theorem sql_mk {H : Hp} {a : Addr} {its : Array Value} {n : Nat} {osl : Array (Option Value)} {xs : List Str} (h : K.lookup a = some ⟨.type "list", none, .seq its n, osl⟩) (hs : its.size ≤ sizeLine) (e : its.toList.map strOf? = xs.map some) : SqL K H a (xs.map .str) ∨ SqT K H a (xs.map .str) :=
  .inl (.inr ⟨_, its, n, h, rfl, rfl, rfl, hs, vals_of _ _ e⟩)
theorem sqt_mk {H : Hp} {a : Addr} {its : Array Value} {n : Nat} {od : Option Addr} {osl : Array (Option Value)} {xs : List Str} (h : K.lookup a = some ⟨.type "tuple", od, .seq its n, osl⟩) (hs : its.size ≤ sizeLine) (e : its.toList.map strOf? = xs.map some) : SqL K H a (xs.map .str) ∨ SqT K H a (xs.map .str) :=
  .inr (.inr ⟨_, its, n, h, rfl, rfl, hs, vals_of _ _ e⟩)
theorem al_mk {x z z' : Str} {t : Tok} (X : K.In h) (G : h.Ns mainGlobals mg) (a : PySem.W.nsIn K mainGlobals x = some (some (.str z t))) (e : z = z') : ∃ t, mg x = some (.str z' t) := ⟨t, by rw [← e]; exact PySem.W.mg_of X G a⟩
theorem t_isInt (X : (hd50.heap_39 w.params).In h) (G : h.Ns mainGlobals mg) : Df (hd50.heap_39 w.params) mg "is_integer" sIsInt := by
  refine' df_mk X G ?a1 ?a2 ?a3 ?a4
  (case a1 => k_is); (case a2 => k_is); (case a3 => k_is); (case a4 => k_is)
theorem t_isNum (X : (hd50.heap_39 w.params).In h) (G : h.Ns mainGlobals mg) : Df (hd50.heap_39 w.params) mg "is_number" sIsNum := by
  refine' df_mk X G ?a1 ?a2 ?a3 ?a4
  (case a1 => k_is); (case a2 => k_is); (case a3 => k_is); (case a4 => k_is)
theorem t_isList (X : (hd50.heap_39 w.params).In h) (G : h.Ns mainGlobals mg) : Df (hd50.heap_39 w.params) mg "is_list" sIsList := by
  refine' df_mk X G ?a1 ?a2 ?a3 ?a4
  (case a1 => k_is); (case a2 => k_is); (case a3 => k_is); (case a4 => k_is)
theorem t_isRow (X : (hd50.heap_39 w.params).In h) (G : h.Ns mainGlobals mg) : Df (hd50.heap_39 w.params) mg "is_row" sIsRow := by
  refine' df_mk X G ?a1 ?a2 ?a3 ?a4
  (case a1 => k_is); (case a2 => k_is); (case a3 => k_is); (case a4 => k_is)
theorem t_unlike (X : (hd50.heap_39 w.params).In h) (G : h.Ns mainGlobals mg) : Df (hd50.heap_39 w.params) mg "are_unlike" sUnlike := by
  refine' df_mk X G ?a1 ?a2 ?a3 ?a4
  (case a1 => k_is); (case a2 => k_is); (case a3 => k_is); (case a4 => k_is)
theorem t_isAgent (X : (hd50.heap_39 w.params).In h) (G : h.Ns mainGlobals mg) : Df (hd50.heap_39 w.params) mg "is_agent" sIsAgent := by
  refine' df_mk X G ?a1 ?a2 ?a3 ?a4
  (case a1 => k_is); (case a2 => k_is); (case a3 => k_is); (case a4 => k_is)
theorem t_isWord (X : (hd50.heap_39 w.params).In h) (G : h.Ns mainGlobals mg) : Df (hd50.heap_39 w.params) mg "is_word" sIsWord := by
  refine' df_mk X G ?a1 ?a2 ?a3 ?a4
  (case a1 => k_is); (case a2 => k_is); (case a3 => k_is); (case a4 => k_is)
theorem t_isPart (X : (hd50.heap_39 w.params).In h) (G : h.Ns mainGlobals mg) : Df (hd50.heap_39 w.params) mg "is_part" sIsPart := by
  refine' df_mk X G ?a1 ?a2 ?a3 ?a4
  (case a1 => k_is); (case a2 => k_is); (case a3 => k_is); (case a4 => k_is)
theorem t_isPL (X : (hd50.heap_39 w.params).In h) (G : h.Ns mainGlobals mg) : Df (hd50.heap_39 w.params) mg "is_part_layer" sIsPL := by
  refine' df_mk X G ?a1 ?a2 ?a3 ?a4
  (case a1 => k_is); (case a2 => k_is); (case a3 => k_is); (case a4 => k_is)
theorem t_arePL (X : (hd50.heap_39 w.params).In h) (G : h.Ns mainGlobals mg) : Df (hd50.heap_39 w.params) mg "are_part_layers" sArePL := by
  refine' df_mk X G ?a1 ?a2 ?a3 ?a4
  (case a1 => k_is); (case a2 => k_is); (case a3 => k_is); (case a4 => k_is)
theorem t_isStep (X : (hd50.heap_39 w.params).In h) (G : h.Ns mainGlobals mg) : Df (hd50.heap_39 w.params) mg "is_step" sIsStep := by
  refine' df_mk X G ?a1 ?a2 ?a3 ?a4
  (case a1 => k_is); (case a2 => k_is); (case a3 => k_is); (case a4 => k_is)
theorem t_wrong (X : (hd50.heap_39 w.params).In h) (G : h.Ns mainGlobals mg) : Df (hd50.heap_39 w.params) mg "first_wrong_step" sWrong := by
  refine' df_mk X G ?a1 ?a2 ?a3 ?a4
  (case a1 => k_is); (case a2 => k_is); (case a3 => k_is); (case a4 => k_is)
theorem t_keptL (X : (hd50.heap_39 w.params).In h) (G : h.Ns mainGlobals mg) : Df (hd50.heap_39 w.params) mg "kept_layers" sKeptL := by
  refine' df_mk X G ?a1 ?a2 ?a3 ?a4
  (case a1 => k_is); (case a2 => k_is); (case a3 => k_is); (case a4 => k_is)
theorem t_check (X : (hd50.heap_39 w.params).In h) (G : h.Ns mainGlobals mg) : Df (hd50.heap_39 w.params) mg "check_protocol" sCheck := by
  refine' df_mk X G ?a1 ?a2 ?a3 ?a4
  (case a1 => k_is); (case a2 => k_is); (case a3 => k_is); (case a4 => k_is)
theorem t_stop (X : (hd50.heap_39 w.params).In h) (G : h.Ns mainGlobals mg) : Df (hd50.heap_39 w.params) mg "first_stop" sStop := by
  refine' df_mk X G ?a1 ?a2 ?a3 ?a4
  (case a1 => k_is); (case a2 => k_is); (case a3 => k_is); (case a4 => k_is)
theorem t_goes (X : (hd50.heap_39 w.params).In h) (G : h.Ns mainGlobals mg) : Df (hd50.heap_39 w.params) mg "goes_on" sGoes := by
  refine' df_mk X G ?a1 ?a2 ?a3 ?a4
  (case a1 => k_is); (case a2 => k_is); (case a3 => k_is); (case a4 => k_is)
theorem t_room (X : (hd50.heap_39 w.params).In h) (G : h.Ns mainGlobals mg) : Df (hd50.heap_39 w.params) mg "room" sRoom := by
  refine' df_mk X G ?a1 ?a2 ?a3 ?a4
  (case a1 => k_is); (case a2 => k_is); (case a3 => k_is); (case a4 => k_is)
theorem t_form (X : (hd50.heap_39 w.params).In h) (G : h.Ns mainGlobals mg) : Df (hd50.heap_39 w.params) mg "is_mend_form" sForm := by
  refine' df_mk X G ?a1 ?a2 ?a3 ?a4
  (case a1 => k_is); (case a2 => k_is); (case a3 => k_is); (case a4 => k_is)
theorem t_withL (X : (hd50.heap_39 w.params).In h) (G : h.Ns mainGlobals mg) : Df (hd50.heap_39 w.params) mg "with_layer" sWithL := by
  refine' df_mk X G ?a1 ?a2 ?a3 ?a4
  (case a1 => k_is); (case a2 => k_is); (case a3 => k_is); (case a4 => k_is)
theorem t_mendS (X : (hd50.heap_39 w.params).In h) (G : h.Ns mainGlobals mg) : Df (hd50.heap_39 w.params) mg "mended_steps" sMendS := by
  refine' df_mk X G ?a1 ?a2 ?a3 ?a4
  (case a1 => k_is); (case a2 => k_is); (case a3 => k_is); (case a4 => k_is)
theorem t_keptM (X : (hd50.heap_39 w.params).In h) (G : h.Ns mainGlobals mg) : Df (hd50.heap_39 w.params) mg "kept_mend" sKeptM := by
  refine' df_mk X G ?a1 ?a2 ?a3 ?a4
  (case a1 => k_is); (case a2 => k_is); (case a3 => k_is); (case a4 => k_is)
theorem t_mendBy (X : (hd50.heap_39 w.params).In h) (G : h.Ns mainGlobals mg) : Df (hd50.heap_39 w.params) mg "mended_by" sMendBy := by
  refine' df_mk X G ?a1 ?a2 ?a3 ?a4
  (case a1 => k_is); (case a2 => k_is); (case a3 => k_is); (case a4 => k_is)
theorem t_mended (X : (hd50.heap_39 w.params).In h) (G : h.Ns mainGlobals mg) : Df (hd50.heap_39 w.params) mg "mended" sMended := by
  refine' df_mk X G ?a1 ?a2 ?a3 ?a4
  (case a1 => k_is); (case a2 => k_is); (case a3 => k_is); (case a4 => k_is)
theorem t_tries (X : (hd50.heap_39 w.params).In h) (G : h.Ns mainGlobals mg) : Df (hd50.heap_39 w.params) mg "checked_tries" sTries := by
  refine' df_mk X G ?a1 ?a2 ?a3 ?a4
  (case a1 => k_is); (case a2 => k_is); (case a3 => k_is); (case a4 => k_is)
theorem t_allM (X : (hd50.heap_39 w.params).In h) (G : h.Ns mainGlobals mg) : Df (hd50.heap_39 w.params) mg "all_mends" sAllM := by
  refine' df_mk X G ?a1 ?a2 ?a3 ?a4
  (case a1 => k_is); (case a2 => k_is); (case a3 => k_is); (case a4 => k_is)
theorem t_mends (X : (hd50.heap_39 w.params).In h) (G : h.Ns mainGlobals mg) : Df (hd50.heap_39 w.params) mg "mends" sMends := by
  refine' df_mk X G ?a1 ?a2 ?a3 ?a4
  (case a1 => k_is); (case a2 => k_is); (case a3 => k_is); (case a4 => k_is)
theorem t_strm (X : (hd50.heap_39 w.params).In h) (G : h.Ns mainGlobals mg) : Df (hd50.heap_39 w.params) mg "_law_stream" sStrm := by
  refine' df_mk X G ?a1 ?a2 ?a3 ?a4
  (case a1 => k_is); (case a2 => k_is); (case a3 => k_is); (case a4 => k_is)
theorem t_draw (X : (hd50.heap_39 w.params).In h) (G : h.Ns mainGlobals mg) : Df (hd50.heap_39 w.params) mg "_law_draw" sDraw := by
  refine' df_mk X G ?a1 ?a2 ?a3 ?a4
  (case a1 => k_is); (case a2 => k_is); (case a3 => k_is); (case a4 => k_is)
theorem t_pick (X : (hd50.heap_39 w.params).In h) (G : h.Ns mainGlobals mg) : Df (hd50.heap_39 w.params) mg "_law_pick" sPick := by
  refine' df_mk X G ?a1 ?a2 ?a3 ?a4
  (case a1 => k_is); (case a2 => k_is); (case a3 => k_is); (case a4 => k_is)
theorem t_mixed (X : (hd50.heap_39 w.params).In h) (G : h.Ns mainGlobals mg) : Df (hd50.heap_39 w.params) mg "_law_mixed" sMixed := by
  refine' df_mk X G ?a1 ?a2 ?a3 ?a4
  (case a1 => k_is); (case a2 => k_is); (case a3 => k_is); (case a4 => k_is)
theorem t_loose (X : (hd50.heap_39 w.params).In h) (G : h.Ns mainGlobals mg) : Df (hd50.heap_39 w.params) mg "_law_loose" sLoose := by
  refine' df_mk X G ?a1 ?a2 ?a3 ?a4
  (case a1 => k_is); (case a2 => k_is); (case a3 => k_is); (case a4 => k_is)
theorem t_same (X : (hd50.heap_39 w.params).In h) (G : h.Ns mainGlobals mg) : Df (hd50.heap_39 w.params) mg "_law_same" sSame := by
  refine' df_mk X G ?a1 ?a2 ?a3 ?a4
  (case a1 => k_is); (case a2 => k_is); (case a3 => k_is); (case a4 => k_is)
theorem t_stepL (X : (hd50.heap_39 w.params).In h) (G : h.Ns mainGlobals mg) : Df (hd50.heap_39 w.params) mg "_law_step" sStepL := by
  refine' df_mk X G ?a1 ?a2 ?a3 ?a4
  (case a1 => k_is); (case a2 => k_is); (case a3 => k_is); (case a4 => k_is)
theorem t_spoilt (X : (hd50.heap_39 w.params).In h) (G : h.Ns mainGlobals mg) : Df (hd50.heap_39 w.params) mg "_law_spoilt" sSpoilt := by
  refine' df_mk X G ?a1 ?a2 ?a3 ?a4
  (case a1 => k_is); (case a2 => k_is); (case a3 => k_is); (case a4 => k_is)
theorem t_going (X : (hd50.heap_39 w.params).In h) (G : h.Ns mainGlobals mg) : Df (hd50.heap_39 w.params) mg "_law_going" sGoing := by
  refine' df_mk X G ?a1 ?a2 ?a3 ?a4
  (case a1 => k_is); (case a2 => k_is); (case a3 => k_is); (case a4 => k_is)
theorem t_roomL (X : (hd50.heap_39 w.params).In h) (G : h.Ns mainGlobals mg) : Df (hd50.heap_39 w.params) mg "_law_room" sRoomL := by
  refine' df_mk X G ?a1 ?a2 ?a3 ?a4
  (case a1 => k_is); (case a2 => k_is); (case a3 => k_is); (case a4 => k_is)
theorem t_areL (X : (hd50.heap_39 w.params).In h) (G : h.Ns mainGlobals mg) : Df (hd50.heap_39 w.params) mg "_law_are_steps" sAreL := by
  refine' df_mk X G ?a1 ?a2 ?a3 ?a4
  (case a1 => k_is); (case a2 => k_is); (case a3 => k_is); (case a4 => k_is)
theorem t_putL (X : (hd50.heap_39 w.params).In h) (G : h.Ns mainGlobals mg) : Df (hd50.heap_39 w.params) mg "_law_put_in" sPutL := by
  refine' df_mk X G ?a1 ?a2 ?a3 ?a4
  (case a1 => k_is); (case a2 => k_is); (case a3 => k_is); (case a4 => k_is)
theorem t_mendL (X : (hd50.heap_39 w.params).In h) (G : h.Ns mainGlobals mg) : Df (hd50.heap_39 w.params) mg "_law_mended" sMendL := by
  refine' df_mk X G ?a1 ?a2 ?a3 ?a4
  (case a1 => k_is); (case a2 => k_is); (case a3 => k_is); (case a4 => k_is)
theorem t_allL (X : (hd50.heap_39 w.params).In h) (G : h.Ns mainGlobals mg) : Df (hd50.heap_39 w.params) mg "_law_all_mends" sAllL := by
  refine' df_mk X G ?a1 ?a2 ?a3 ?a4
  (case a1 => k_is); (case a2 => k_is); (case a3 => k_is); (case a4 => k_is)
theorem t_stopL (X : (hd50.heap_39 w.params).In h) (G : h.Ns mainGlobals mg) : Df (hd50.heap_39 w.params) mg "_law_stop" sStopL := by
  refine' df_mk X G ?a1 ?a2 ?a3 ?a4
  (case a1 => k_is); (case a2 => k_is); (case a3 => k_is); (case a4 => k_is)
theorem t_numL (X : (hd50.heap_39 w.params).In h) (G : h.Ns mainGlobals mg) : Df (hd50.heap_39 w.params) mg "_law_is_number" sNumL := by
  refine' df_mk X G ?a1 ?a2 ?a3 ?a4
  (case a1 => k_is); (case a2 => k_is); (case a3 => k_is); (case a4 => k_is)
theorem t_met (X : (hd50.heap_39 w.params).In h) (G : h.Ns mainGlobals mg) : Df (hd50.heap_39 w.params) mg "_law_met" sMet := by
  refine' df_mk X G ?a1 ?a2 ?a3 ?a4
  (case a1 => k_is); (case a2 => k_is); (case a3 => k_is); (case a4 => k_is)
theorem t_anyP (X : (hd50.heap_39 w.params).In h) (G : h.Ns mainGlobals mg) : Df (hd50.heap_39 w.params) mg "_law_any_protocol" sAnyP := by
  refine' df_mk X G ?a1 ?a2 ?a3 ?a4
  (case a1 => k_is); (case a2 => k_is); (case a3 => k_is); (case a4 => k_is)
theorem t_triesL (X : (hd50.heap_39 w.params).In h) (G : h.Ns mainGlobals mg) : Df (hd50.heap_39 w.params) mg "_law_tries" sTriesL := by
  refine' df_mk X G ?a1 ?a2 ?a3 ?a4
  (case a1 => k_is); (case a2 => k_is); (case a3 => k_is); (case a4 => k_is)
theorem t_isMend (X : (hd50.heap_39 w.params).In h) (G : h.Ns mainGlobals mg) : Df (hd50.heap_39 w.params) mg "_law_is_mend" sIsMend := by
  refine' df_mk X G ?a1 ?a2 ?a3 ?a4
  (case a1 => k_is); (case a2 => k_is); (case a3 => k_is); (case a4 => k_is)
theorem t_near (X : (hd50.heap_39 w.params).In h) (G : h.Ns mainGlobals mg) : Df (hd50.heap_39 w.params) mg "_law_near" sNear := by
  refine' df_mk X G ?a1 ?a2 ?a3 ?a4
  (case a1 => k_is); (case a2 => k_is); (case a3 => k_is); (case a4 => k_is)
theorem t_lawD (X : (hd50.heap_39 w.params).In h) (G : h.Ns mainGlobals mg) : Df (hd50.heap_39 w.params) mg "law" sLaw := by
  refine' df_mk X G ?a1 ?a2 ?a3 ?a4
  (case a1 => k_is); (case a2 => k_is); (case a3 => k_is); (case a4 => k_is)
theorem t_pr (X : (hd50.heap_39 w.params).In h) (G : h.Ns mainGlobals mg) : ∃ c, DfC (hd50.heap_39 w.params) mg "_law_protocol_right" sPR c ∧ PySem.W.codeHdIn (hd50.heap_39 w.params) c 471 = true := by
  refine' ⟨_, dfc_mk X G ?a1 ?a2 ?a3 ?a4, ?a5⟩
  (case a1 => k_is); (case a2 => k_is); (case a3 => k_is); (case a4 => k_is); (case a5 => kernel_rfl)
theorem t_ref (X : (hd50.heap_39 w.params).In h) (G : h.Ns mainGlobals mg) : ∃ c, DfC (hd50.heap_39 w.params) mg "_law_refused_right" sRef c ∧ PySem.W.codeHdIn (hd50.heap_39 w.params) c 476 = true := by
  refine' ⟨_, dfc_mk X G ?a1 ?a2 ?a3 ?a4, ?a5⟩
  (case a1 => k_is); (case a2 => k_is); (case a3 => k_is); (case a4 => k_is); (case a5 => kernel_rfl)
theorem t_exc (X : (hd50.heap_39 w.params).In h) (G : h.Ns mainGlobals mg) : ∃ CP CL CM, Exc (hd50.heap_39 w.params) mg CP "BadProtocol" "protocol" "BadProtocol.__init__" iBadP ∧ Exc (hd50.heap_39 w.params) mg CL "BadLayers" "layers" "BadLayers.__init__" iBadL ∧ Exc (hd50.heap_39 w.params) mg CM "BadMend" "mend" "BadMend.__init__" iBadM ∧
    PySem.W.exmOne (hd50.heap_39 w.params) (.ref CP) (.ref CP) = some true ∧ PySem.W.exmOne (hd50.heap_39 w.params) (.ref CL) (.ref CP) = some false ∧ PySem.W.exmOne (hd50.heap_39 w.params) (.ref CL) (.ref CL) = some true ∧ PySem.W.exmOne (hd50.heap_39 w.params) (.ref CM) (.ref CP) = some false ∧ PySem.W.exmOne (hd50.heap_39 w.params) (.ref CM) (.ref CL) = some false ∧ PySem.W.exmOne (hd50.heap_39 w.params) (.ref CM) (.ref CM) = some true := by
  refine' ⟨_, _, _, exc_mk X G ?kaC ?kxL ?krv ?ksa ?kga ?kgg ?knb ?ki1 ?kt1 ?ka2 ?ka3 ?ka4 ?kkC ?keC ?ktC ?khC, exc_mk X G ?laC ?lxL ?lrv ?lsa ?lga ?lgg ?lnb ?li1 ?lt1 ?la2 ?la3 ?la4 ?lkC ?leC ?ltC ?lhC, exc_mk X G ?maC ?mxL ?mrv ?msa ?mga ?mgg ?mnb ?mi1 ?mt1 ?ma2 ?ma3 ?ma4 ?mkC ?meC ?mtC ?mhC, ?e1, ?e2, ?e3, ?e4, ?e5, ?e6⟩
  (case kaC => k_is); (case kxL => k_is); (case krv => decide +kernel); (case ksa => k_is); (case kga => k_is); (case kgg => k_is); (case knb => k_is); (case ki1 => k_is); (case kt1 => k_is); (case ka2 => k_is); (case ka3 => k_is); (case ka4 => k_is); (case kkC => k_is); (case keC => k_is); (case ktC => k_is); (case khC => k_is)
  (case laC => k_is); (case lxL => k_is); (case lrv => decide +kernel); (case lsa => k_is); (case lga => k_is); (case lgg => k_is); (case lnb => k_is); (case li1 => k_is); (case lt1 => k_is); (case la2 => k_is); (case la3 => k_is); (case la4 => k_is); (case lkC => k_is); (case leC => k_is); (case ltC => k_is); (case lhC => k_is)
  (case maC => k_is); (case mxL => k_is); (case mrv => decide +kernel); (case msa => k_is); (case mga => k_is); (case mgg => k_is); (case mnb => k_is); (case mi1 => k_is); (case mt1 => k_is); (case ma2 => k_is); (case ma3 => k_is); (case ma4 => k_is); (case mkC => k_is); (case meC => k_is); (case mtC => k_is); (case mhC => k_is)
  (case e1 => kernel_rfl); (case e2 => kernel_rfl); (case e3 => kernel_rfl); (case e4 => kernel_rfl); (case e5 => kernel_rfl); (case e6 => kernel_rfl)
theorem t_words (X : (hd50.heap_39 w.params).In h) (G : h.Ns mainGlobals mg) : ∃ a, TAgent (hd50.heap_39 w.params) mg a := by
  refine' ⟨_, PySem.W.mg_of X G ?a1, fun H => sql_mk ?a2 ?a3 ?a4, al_mk X G ?a5 ?a6⟩
  (case a1 => k_is); (case a2 => k_is); (case a3 => decide +kernel); (case a4 => decide +kernel); (case a5 => k_is); (case a6 => decide +kernel)
theorem t_kinds (X : (hd50.heap_39 w.params).In h) (G : h.Ns mainGlobals mg) : ∃ a, TKinds (hd50.heap_39 w.params) mg a := by
  refine' ⟨_, PySem.W.mg_of X G ?a1, fun H => sqt_mk ?a2 ?a3 ?a4⟩
  (case a1 => k_is); (case a2 => k_is); (case a3 => decide +kernel); (case a4 => decide +kernel)
theorem t_proto (X : (hd50.heap_39 w.params).In h) (G : h.Ns mainGlobals mg) : ∃ C, TProto (hd50.heap_39 w.params) mg C ∧ (∃ fi fd, Mk (hd50.heap_39 w.params) C fi ∧ Fun (hd50.heap_39 w.params) "__init__" "Proto.__init__" iInit fi fd) ∧ Mth (hd50.heap_39 w.params) C "__eq__" "Proto.__eq__" iEq ∧ Mth (hd50.heap_39 w.params) C "steps" "Proto.steps" iSteps := by
  refine' ⟨_, ⟨PySem.W.mg_of X G ?aC, ⟨⟨?c1, ?c2, ?c3, ?c4⟩, ?p1, ?p2, ?p3, ?p4, fun T hT => ?p5, ?p6, fun T hT => ?p7⟩, ?n1, ?n2⟩, ⟨_, _, ⟨?m1, ?m2, ?m3, ?m4⟩, fun_mk ?i1 ?i2 ?i3⟩, mth_mk ?t1 ?t2 ?t3 ?t4 ?t5, mth_mk ?f1 ?f2 ?f3 ?f4 ?f5⟩
  (case aC => k_is); (case c1 => k_is); (case c2 => k_is); (case c3 => k_is); (case c4 => k_is); (case p1 => k_is); (case p2 => k_is); (case p3 => k_is); (case p4 => k_is); (case p6 => kernel_rfl); (case n1 => show PySem.W.findIn _ _ _ = _; k_is); (case n2 => show PySem.W.findIn _ _ _ = _; k_is)
  (case m1 => k_is); (case m2 => k_is); (case m3 => k_is); (case m4 => k_is); (case i1 => k_is); (case i2 => k_is); (case i3 => k_is)
  (case t1 => k_is); (case t2 => k_is); (case t3 => k_is); (case t4 => k_is); (case t5 => k_is); (case f1 => k_is); (case f2 => k_is); (case f3 => k_is); (case f4 => k_is); (case f5 => k_is)
  case p5 =>
    simp only [List.mem_cons, List.not_mem_nil, or_false] at hT
    rcases hT with rfl | rfl | rfl | rfl | rfl | rfl <;> kernel_rfl
  case p7 =>
    simp only [List.mem_cons, List.not_mem_nil, or_false] at hT
    rcases hT with rfl | rfl | rfl | rfl | rfl | rfl | rfl <;> kernel_rfl
theorem t_law {fa : Addr} (X : (hd50.heap_39 w.params).In h) (G : h.Ns mainGlobals mg) (hfa : mg "law" = some (.ref fa)) : ∃ fd, Fun (hd50.heap_39 w.params) "law" "law" sLaw fa fd ∧ ∀ (s : Shared) (u : Value), BindsTo s fd ⟨[u], []⟩ [("_law_script", u)] := by
  obtain ⟨f', fd, h1, h2⟩ := t_lawD (w := w) X G
  have e := h1.symm.trans hfa
  cases e
  refine ⟨fd, h2, fun s u => ?_⟩
  obtain ⟨oc, od, kV, doc, pm, an, cdv, ct, osl, rfl, _, _⟩ := h2.ex
  exact .of_eq rfl
theorem t_b (X : (hd50.heap_39 w.params).In h) (G : h.Ns mainGlobals mg) : ∀ x ∈ (["isinstance", "list", "tuple", "all", "enumerate", "str", "sorted", "len", "any", "abs", "int", "range", "zip", "dict", "bool", "min", "max", "repr"] : List Str), mg x = none := fun x hx => by
  refine PySem.W.mg_none_of X G ?_
  simp only [List.mem_cons, List.not_mem_nil, or_false] at hx
  rcases hx with rfl | rfl | rfl | rfl | rfl | rfl | rfl | rfl | rfl | rfl | rfl | rfl | rfl | rfl | rfl | rfl | rfl | rfl <;> k_is
theorem t_txt (X : (hd50.heap_39 w.params).In h) (G : h.Ns mainGlobals mg) : ∃ CP CL CM C aW aK c1 c2, Txt (hd50.heap_39 w.params) mg CP CL CM C aW aK c1 c2 ∧ PySem.W.codeHdIn (hd50.heap_39 w.params) c1 471 = true ∧ PySem.W.codeHdIn (hd50.heap_39 w.params) c2 476 = true := by
  obtain ⟨CP, CL, CM, k1, k2, k3, e1, e2, e3, e4, e5, e6⟩ := t_exc (w := w) X G
  obtain ⟨C, a1, a2, a3, a4⟩ := t_proto (w := w) X G
  obtain ⟨aW, w1⟩ := t_words (w := w) X G
  obtain ⟨aK, w2⟩ := t_kinds (w := w) X G
  obtain ⟨c1, p1, q1⟩ := t_pr (w := w) X G
  obtain ⟨c2, p2, q2⟩ := t_ref (w := w) X G
  exact ⟨CP, CL, CM, C, aW, aK, c1, c2, { b := t_b X G, isInt := t_isInt X G, isNum := t_isNum X G, isList := t_isList X G, isRow := t_isRow X G, unlike := t_unlike X G, isAgent := t_isAgent X G, isWord := t_isWord X G, isPart := t_isPart X G, isPL := t_isPL X G, arePL := t_arePL X G, isStep := t_isStep X G, wrong := t_wrong X G, keptL := t_keptL X G, check := t_check X G, stop := t_stop X G, goes := t_goes X G, room := t_room X G, form := t_form X G, withL := t_withL X G, mendS := t_mendS X G, keptM := t_keptM X G, mendBy := t_mendBy X G, mended := t_mended X G, tries := t_tries X G, allM := t_allM X G, mends := t_mends X G, strm := t_strm X G, draw := t_draw X G, pick := t_pick X G, mixed := t_mixed X G, loose := t_loose X G, same := t_same X G, stepL := t_stepL X G, spoilt := t_spoilt X G, going := t_going X G, roomL := t_roomL X G, areL := t_areL X G, putL := t_putL X G, mendL := t_mendL X G, allL := t_allL X G, stopL := t_stopL X G, numL := t_numL X G, met := t_met X G, anyP := t_anyP X G, triesL := t_triesL X G, isMend := t_isMend X G, near := t_near X G, pr := p1, ref := p2, prX := k1, laX := k2, meX := k3, pp := e1, lp := e2, ll := e3, mp := e4, ml := e5, mm := e6, pro := a1, mkI := a2, eq := a3, steps := a4, ag := w1, kinds := w2 }, q1, q2⟩
end
end K50
open PySem PySem.Spec PyProof.Rows L2 K50
theorem PySem.Challenge.cw_roadheld_k50_whole_mends_made_holds : PySem.Challenge.rw_roadheld_k50_whole_mends_made.Holds := by
  refine hd50 (LamX.walk_ofTs (n := 63) (k := 16) (K := hd50.heap_39) (CX := fun _ => L2.CX0) (x := "_law_script") rfl (by decide) rfl ⟨rfl, by decide, by decide⟩ (fun w h Y => PySem.W.km_in_of Y) (fun w mg fa h Y KX G hmg => ?_) (fun _ _ _ _ _ z => z))
  have hT := PySem.W.km_tabs_of Y
  obtain ⟨CP, CL, CM, C, aW, aK, c1, c2, T, q1, q2⟩ := t_txt (w := w) KX G
  obtain ⟨fd, F, hb⟩ := t_law (w := w) KX G hmg
  refine ⟨fd, [(c1, 471), (c2, 476)], spLaw _ (tb50 471 476), fun p hp => ?_, fun p hp => ?_, fun p hp => ?_, hb, fun H a ns _ _ hH hS => ⟨a, ns, rfl, hS, fun p hp => ?_, fun p hp => (by cases hp), fun _ => rfl⟩, fun base _ _ hTb => law_of T (by decide) F (hTb (c1, 471) (by simp)) (hTb (c2, 476) (by simp))⟩
  · simp only [List.mem_cons, List.not_mem_nil, or_false] at hp
    rcases hp with rfl | rfl
    · exact hT 471 (by decide)
    · exact hT 476 (by decide)
  · simp only [List.mem_cons, List.not_mem_nil, or_false] at hp
    rcases hp with rfl | rfl <;> kernel_rfl
  · simp only [List.mem_cons, List.not_mem_nil, or_false] at hp
    rcases hp with rfl | rfl
    · exact PySem.W.codeHd_of_K KX q1
    · exact PySem.W.codeHd_of_K KX q2
  · simp only [List.mem_cons, List.not_mem_nil, or_false] at hp
    rcases hp with rfl | rfl
    · exact hH (c1, 471) (by simp)
    · exact hH (c2, 476) (by simp)
#print axioms PySem.Challenge.cw_roadheld_k50_whole_mends_made_holds
