import PyProof.Rows.All
import Wide.All
import OpenK.AllK
import Wide.FinOn
import HandS.ForMost
import HandS.ForExc
import HandS.IsInst
import HandS.Deep
import HandS.Star
import HandS.Zip
import KE.SortData
import KE.SortKeyHeap
import HandS.Walk
import HandS.Iter
import HandS.ExcInit
import HandS.TryMany
import HandS.Wide
import HandS.MakeKw
import HandS.Flow
import HandS.Defaults
import HandS.CallLocal
import HandS.ExcField
import HandS.Nested
import HandS.DictTup
import KE.KDictKeyed
import HandS.EndTab
import PySem.Challenge.RW_roadheld_k48_whole_meetings_and_few_aski
set_option Elab.async false
set_option linter.all false
set_option maxRecDepth 100000
set_option maxHeartbeats 4000000
/-! Pd: readings of expressions that only make new data: trees (PyData) over a frozen part G of the abstract heap -/
namespace PD
open PySem PySem.Spec PyProof.Rows L2 StX

/-! ### data that stand in a part of the heap -/
mutual
inductive Dq (H : Hp) : V → PyData → Prop
  | non : Dq H .non .none
  | bl (b : Bool) : Dq H (.bl b) (.bool b)
  | int (i : Int) : Dq H (.int i) (.int i)
  | str (x : Str) : Dq H (.str x) (.str x)
  | lst {a : Addr} {xs : List V} {ds : List PyData} : H a = some (.lst xs) → DqAll H xs ds → Dq H (.ref a) (.list ds)
  | tup {a : Addr} {xs : List V} {ds : List PyData} : H a = some (.tup xs) → DqAll H xs ds → Dq H (.ref a) (.tuple ds)
  | dict {a : Addr} : H a = some (.dK []) → Dq H (.ref a) (.dict [])
inductive DqAll (H : Hp) : List V → List PyData → Prop
  | nil : DqAll H [] []
  | cons {v : V} {vs : List V} {d : PyData} {ds : List PyData} : Dq H v d → DqAll H vs ds → DqAll H (v :: vs) (d :: ds)
end
section
variable {G H G' H' : Hp}
mutual
theorem Dq.mono (e : Same G G') : ∀ (d : PyData) (v : V), Dq G v d → Dq G' v d
  | .none, _, h => by cases h; exact .non
  | .bool b, _, h => by cases h; exact .bl b
  | .int i, _, h => by cases h; exact .int i
  | .str x, _, h => by cases h; exact .str x
  | .list ds, _, h => by
    cases h with
    | lst h1 h2 => exact .lst (e _ _ h1) (DqAll.mono e ds _ h2)
  | .tuple ds, _, h => by
    cases h with
    | tup h1 h2 => exact .tup (e _ _ h1) (DqAll.mono e ds _ h2)
  | .dict _, _, h => by
    cases h with
    | dict h1 => exact .dict (e _ _ h1)
theorem DqAll.mono (e : Same G G') : ∀ (ds : List PyData) (vs : List V), DqAll G vs ds → DqAll G' vs ds
  | [], _, h => by cases h; exact .nil
  | d :: ds, _, h => by
    cases h with
    | cons h1 h2 => exact .cons (Dq.mono e d _ h1) (DqAll.mono e ds _ h2)
end
theorem Dq.up {v : V} {d : PyData} (h : Dq G v d) (e : Same G G') : Dq G' v d := Dq.mono e d v h
theorem DqAll.up {vs : List V} {ds : List PyData} (h : DqAll G vs ds) (e : Same G G') : DqAll G' vs ds := DqAll.mono e ds vs h
/-! no dict in it -/
mutual
def noDict : PyData → Bool
  | .dict _ => false
  | .list ds => noDictL ds
  | .tuple ds => noDictL ds
  | _ => true
def noDictL : List PyData → Bool
  | [] => true
  | d :: ds => noDict d && noDictL ds
end
mutual
theorem Dq.dp {K : PySem.W.Frag} : ∀ (d : PyData) (v : V), Dq G v d → noDict d = true → Dp K G v d
  | .none, _, h, _ => by cases h; exact .non
  | .bool b, _, h, _ => by cases h; exact .bl b
  | .int i, _, h, _ => by cases h; exact .int i
  | .str x, _, h, _ => by cases h; exact .str x
  | .list ds, _, h, n => by
    cases h with
    | lst h1 h2 => exact .lst (SqL.of h1) (DqAll.dp ds _ h2 (by simpa [noDict] using n))
  | .tuple ds, _, h, n => by
    cases h with
    | tup h1 h2 => exact .tup (SqT.of h1) (DqAll.dp ds _ h2 (by simpa [noDict] using n))
  | .dict _, _, h, n => by simp [noDict] at n
theorem DqAll.dp {K : PySem.W.Frag} : ∀ (ds : List PyData) (vs : List V), DqAll G vs ds → noDictL ds = true → DpAll K G vs ds
  | [], _, h, _ => by cases h; exact .nil
  | d :: ds, _, h, n => by
    rw [noDictL, Bool.and_eq_true] at n
    cases h with
    | cons h1 h2 => exact .cons (Dq.dp d _ h1 n.1) (DqAll.dp ds _ h2 n.2)
end
mutual
theorem noDict_of_lay : ∀ d : PyData, d.canLay0 = true → noDict d = true
  | .none, _ => rfl
  | .bool _, _ => rfl
  | .int _, _ => rfl
  | .str _, _ => rfl
  | .list ds, h => by
    rw [noDict]
    exact noDictL_of_lay ds (by simpa [PyData.canLay0] using h)
  | .tuple ds, h => by
    rw [noDict]
    exact noDictL_of_lay ds (by simpa [PyData.canLay0] using h)
  | .dict _, h => by simp [PyData.canLay0] at h
theorem noDictL_of_lay : ∀ ds : List PyData, PyData.canLayAll0 ds = true → noDictL ds = true
  | [], _ => rfl
  | d :: ds, h => by
    simp only [PyData.canLayAll0, Bool.and_eq_true] at h
    rw [noDictL, noDict_of_lay d h.1, noDictL_of_lay ds h.2]
    rfl
end
theorem lay_of_shaped {d : PyData} (h : SeqAt.shaped d = true) : d.canLay0 = true := by
  have h : (d.canLay0 && decide (d.depth ≤ 64)) = true := h
  exact (Bool.and_eq_true _ _ ▸ h).1
theorem Dq.toDp {K : PySem.W.Frag} {v : V} {d : PyData} (h : Dq G v d) (s : SeqAt.shaped d = true) (e : Same G H) : Dp K H v d := Dq.dp d v (h.up e) (noDict_of_lay d (lay_of_shaped s))
theorem DqAll.len : ∀ {vs : List V} {ds : List PyData}, DqAll G vs ds → vs.length = ds.length
  | _, _, .nil => rfl
  | _, _, .cons _ t => by simp [DqAll.len t]
theorem DqAll.get : ∀ {vs : List V} {ds : List PyData} {i : Nat} {v : V}, DqAll G vs ds → vs[i]? = some v → ∃ d, ds[i]? = some d ∧ Dq G v d
  | _, _, _, _, .nil, h => by simp at h
  | _, _, 0, _, .cons h _, e => by simp at e; subst e; exact ⟨_, rfl, h⟩
  | _, _, i + 1, _, .cons _ t, e => by
    obtain ⟨d, h1, h2⟩ := DqAll.get t (i := i) (by simpa using e)
    exact ⟨d, by simpa using h1, h2⟩
theorem DqAll.at' : ∀ {vs : List V} {ds : List PyData} {i : Nat} {d : PyData}, DqAll G vs ds → ds[i]? = some d → ∃ v, vs[i]? = some v ∧ Dq G v d
  | _, _, _, _, .nil, h => by simp at h
  | _, _, 0, _, .cons h _, e => by simp at e; subst e; exact ⟨_, rfl, h⟩
  | _, _, i + 1, _, .cons _ t, e => by
    obtain ⟨d, h1, h2⟩ := DqAll.at' t (i := i) (by simpa using e)
    exact ⟨d, by simpa using h1, h2⟩
theorem DqAll.app : ∀ {vs ws : List V} {ds es : List PyData}, DqAll G vs ds → DqAll G ws es → DqAll G (vs ++ ws) (ds ++ es)
  | _, _, _, _, .nil, h => h
  | _, _, _, _, .cons h t, u => .cons h (DqAll.app t u)
theorem DqAll.take : ∀ {vs : List V} {ds : List PyData} (n : Nat), DqAll G vs ds → DqAll G (vs.take n) (ds.take n)
  | _, _, 0, _ => by simp; exact .nil
  | _, _, _ + 1, .nil => by simp; exact .nil
  | _, _, n + 1, .cons h t => by simp; exact .cons h (DqAll.take n t)
theorem DqAll.drop : ∀ {vs : List V} {ds : List PyData} (n : Nat), DqAll G vs ds → DqAll G (vs.drop n) (ds.drop n)
  | _, _, 0, h => h
  | _, _, _ + 1, .nil => .nil
  | _, _, n + 1, .cons _ t => by simpa using DqAll.drop n t
theorem DqAll.snoc {vs : List V} {ds : List PyData} {v : V} {d : PyData} (h : DqAll G vs ds) (k : Dq G v d) : DqAll G (vs ++ [v]) (ds ++ [d]) := h.app (.cons k .nil)
theorem DqAll.bls : ∀ {bs : List Bool} {vs : List V}, DqAll G vs (bs.map PyData.bool) → vs = bs.map V.bl
  | [], _, h => by cases h; rfl
  | b :: bs, _, h => by
    cases h with
    | cons h1 h2 =>
      cases h1
      rw [DqAll.bls h2]
      rfl
theorem DqAll.two {vs : List V} {a b : PyData} (h : DqAll G vs [a, b]) : ∃ x y, vs = [x, y] ∧ Dq G x a ∧ Dq G y b := by
  cases h with
  | cons h1 h2 =>
    cases h2 with
    | cons h3 h4 =>
      cases h4
      exact ⟨_, _, rfl, h1, h3⟩
theorem DqAll.one {vs : List V} {a : PyData} (h : DqAll G vs [a]) : ∃ x, vs = [x] ∧ Dq G x a := by
  cases h with
  | cons h1 h2 =>
    cases h2
    exact ⟨_, rfl, h1⟩

/-! ### what a reading leaves: the heap and its frozen part have grown -/
structure Ext (G H G' H' : Hp) : Prop where
  hh : Same H H'
  gg : Same G G'
  gh : Same G' H'
  fr : ∀ a, G' a ≠ none → G a ≠ none ∨ H a = none
theorem Ext.refl (h : Same G H) : Ext G H G H := ⟨Same.refl _, Same.refl _, h, fun _ h => .inl h⟩
theorem Same.none {a : Addr} (e : Same H H') (h : H' a = none) : H a = none := e.free h
theorem Ext.trans {G1 H1 G2 H2 : Hp} (a : Ext G H G1 H1) (b : Ext G1 H1 G2 H2) : Ext G H G2 H2 :=
  ⟨a.hh.trans b.hh, a.gg.trans b.gg, b.gh, fun x h => (b.fr x h).elim (fun q => a.fr x q) fun q => .inr (a.hh.free q)⟩
theorem Ext.new {p : Addr} {o : HO} (h : Same G H) (hp : H p = none) : Ext G H (upd G p o) (upd H p o) := by
  have gp : G p = none := h.free hp
  refine ⟨fun b u e => ?_, fun b u e => ?_, fun b u e => ?_, fun b e => ?_⟩
  · rw [upd_ne (ne_of_none e hp)]; exact e
  · rw [upd_ne (ne_of_none e gp)]; exact e
  · by_cases hb : b = p
    · subst hb; rw [upd_same] at e ⊢; exact e
    · rw [upd_ne hb] at e ⊢; exact h b u e
  · by_cases hb : b = p
    · subst hb; exact .inr hp
    · rw [upd_ne hb] at e; exact .inl e
/-- the heap alone has grown -/
theorem Ext.more (h : Same G H) (e : Same H H') : Ext G H G H' := ⟨e, Same.refl _, h.trans e, fun _ h => .inl h⟩
theorem same_new {p : Addr} {o : HO} (hp : H p = none) : Same H (upd H p o) := fun b u e => by
  rw [upd_ne (ne_of_none e hp)]; exact e
/-- a store at an address outside of the frozen part -/
theorem same_off {p : Addr} {o : HO} (h : Same G H) (hp : G p = none) : Same G (upd H p o) := fun b u e => by
  rw [upd_ne (ne_of_none e hp)]; exact h b u e
/-- a greater frozen part -/
theorem Ext.lift {G1 : Hp} (hG : Same G G1) (h1 : Same G1 H) (e : Ext G H G' H') : ∃ G2, Ext G1 H G2 H' ∧ Same G' G2 := by
  refine ⟨fun a => match G1 a with | some o => some o | none => G' a, ⟨e.hh, fun b u q => ?_, fun b u q => ?_, fun b q => ?_⟩, fun b u q => ?_⟩
  · show (match G1 b with | some o => some o | none => G' b) = some u
    rw [q]
  · have q : (match G1 b with | some o => some o | none => G' b) = some u := q
    cases z : G1 b with
    | some o => rw [z] at q; cases q; exact e.hh _ _ (h1 _ _ z)
    | none => rw [z] at q; exact e.gh _ _ q
  · have q : (match G1 b with | some o => some o | none => G' b) ≠ none := q
    cases z : G1 b with
    | some o => exact .inl (by simp)
    | none =>
      rw [z] at q
      rcases e.fr b q with y | y
      · cases w : G b with
        | none => exact absurd w y
        | some o => rw [hG _ _ w] at z; cases z
      · exact .inr y
  · show (match G1 b with | some o => some o | none => G' b) = some u
    cases z : G1 b with
    | some o =>
      have a1 := e.hh _ _ (h1 _ _ z)
      rw [e.gh _ _ q] at a1
      exact a1.symm
    | none => exact q
end

/-! ### readings -/
def PR (t : TE) (σ : L2.St) (G : Hp) (d : PyData) : Prop := ∀ (H : Hp) (Q : VK), Same G H → (∀ v G' H', Ext G H G' H' → Dq G' v d → Q v H') → t σ H Q
def PRA (t : TA) (σ : L2.St) (G : Hp) (ds : List PyData) : Prop := ∀ (H : Hp) (Q : List V → Hp → Prop), Same G H → (∀ vs G' H', Ext G H G' H' → DqAll G' vs ds → Q vs H') → t σ H Q
def TR (t : TT) (σ : L2.St) (G : Hp) (b : Bool) : Prop := ∀ (H : Hp) (Q : Bool → Hp → Prop), Same G H → (∀ H', Same H H' → Q b H') → t σ H Q
section
variable {σ : L2.St} {G G1 : Hp} {d d1 d2 : PyData} {ds : List PyData} {te ta tb : TE} {t : TA} {tt tu : TT} {b c : Bool}
theorem PR.mono (h : PR te σ G d) (e : Same G G1) : PR te σ G1 d := fun H Q hs k => h H Q (e.trans hs) fun v G' H' x dv => by
  obtain ⟨G2, y, z⟩ := x.lift e hs
  exact k v G2 H' y (dv.up z)
theorem PRA.mono (h : PRA t σ G ds) (e : Same G G1) : PRA t σ G1 ds := fun H Q hs k => h H Q (e.trans hs) fun v G' H' x dv => by
  obtain ⟨G2, y, z⟩ := x.lift e hs
  exact k v G2 H' y (dv.up z)
theorem TR.mono (h : TR tt σ G b) (e : Same G G1) : TR tt σ G1 b := fun H Q hs k => h H Q (e.trans hs) k
theorem PR.eq (h : PR te σ G d) (e : d = d1) : PR te σ G d1 := e ▸ h
theorem TR.eq (h : TR tt σ G b) (e : b = c) : TR tt σ G c := e ▸ h
theorem PR_var {i : Nat} {v : V} (h : σ[i]? = some (some v)) (k : Dq G v d) : PR (tVar i) σ G d := fun H Q hs q => ⟨v, h, q v G H (.refl hs) k⟩
theorem PR_c {v : V} (k : Dq G v d) : PR (tC v) σ G d := fun H Q hs q => q v G H (.refl hs) k
theorem PR_int {i : Int} : PR (tC (.int i)) σ G (.int i) := PR_c (.int i)
theorem PR_str {x : Str} : PR (tC (.str x)) σ G (.str x) := PR_c (.str x)
theorem PR_bl : PR (tC (.bl b)) σ G (.bool b) := PR_c (.bl b)
theorem PR_non : PR (tC .non) σ G .none := PR_c .non
theorem PRA_nil : PRA tNil σ G [] := fun H Q hs k => k [] G H (.refl hs) .nil
theorem PRA_cons (h : PR te σ G d) (r : PRA t σ G ds) : PRA (tCons te t) σ G (d :: ds) := fun H Q hs k =>
  h H _ hs fun v G1 H1 e1 dv => (r.mono e1.gg) H1 _ e1.gh fun vs G2 H2 e2 dvs => k (v :: vs) G2 H2 (e1.trans e2) (.cons (dv.up e2.gg) dvs)
theorem PRA_one (h : PR te σ G d) : PRA (tCons te tNil) σ G [d] := PRA_cons h PRA_nil
theorem PRA_two (h : PR ta σ G d1) (k : PR tb σ G d2) : PRA (tCons ta (tCons tb tNil)) σ G [d1, d2] := PRA_cons h (PRA_cons k PRA_nil)
theorem PR_lst (h : PRA t σ G ds) (z : ds.length ≤ sizeLine) : PR (tLst t) σ G (.list ds) := fun H Q hs k =>
  h H _ hs fun vs G1 H1 e1 dv => ⟨by rw [dv.len]; exact z, fun p hp => k (.ref p) _ _ (e1.trans (.new (o := .lst vs) e1.gh hp)) (.lst upd_same (dv.up (same_new (e1.gh.free hp))))⟩
theorem PR_tup (h : PRA t σ G ds) (z : ds.length ≤ sizeLine) : PR (tTup t) σ G (.tuple ds) := fun H Q hs k =>
  h H _ hs fun vs G1 H1 e1 dv => ⟨by rw [dv.len]; exact z, fun p hp => k (.ref p) _ _ (e1.trans (.new (o := .tup vs) e1.gh hp)) (.tup upd_same (dv.up (same_new (e1.gh.free hp))))⟩
/-- [*xs, ..] -/
theorem PRA_star {K : PySem.W.Frag} {es : List PyData} (h : PR te σ G (.list es)) (r : PRA t σ G ds) : PRA (tStar K te t) σ G (es ++ ds) := fun H Q hs k =>
  h H _ hs fun v G1 H1 e1 dv => by
    cases dv with
    | lst ha hall =>
      exact ⟨_, _, rfl, .inr (SqL.of (e1.gh _ _ ha)), (r.mono e1.gg) H1 _ e1.gh fun vs G2 H2 e2 dvs => k _ G2 H2 (e1.trans e2) ((hall.up e2.gg).app dvs)⟩
/-- rules by values -/
def RR (r : List V → Hp → VK → Prop) (ds : List PyData) (d : PyData) : Prop := ∀ (vs : List V) (G H : Hp) (Q : VK), Same G H → DqAll G vs ds → (∀ v G' H', Ext G H G' H' → Dq G' v d → Q v H') → r vs H Q
def RR2 (r : R2) (d1 d2 d : PyData) : Prop := ∀ (x y : V) (G H : Hp) (Q : VK), Same G H → Dq G x d1 → Dq G y d2 → (∀ v G' H', Ext G H G' H' → Dq G' v d → Q v H') → r x y H Q
theorem PR_CB {r : List V → Hp → VK → Prop} (hr : RR r ds d) (h : PRA t σ G ds) : PR (tCB r t) σ G d := fun H Q hs k =>
  h H _ hs fun vs G1 H1 e1 dv => hr vs G1 H1 Q e1.gh dv fun v G2 H2 e2 dv2 => k v G2 H2 (e1.trans e2) dv2
theorem PR_op {r : R2} (hr : RR2 r d1 d2 d) (h1 : PR ta σ G d1) (h2 : PR tb σ G d2) : PR (tOp r ta tb) σ G d := fun H Q hs k =>
  h1 H _ hs fun x G1 H1 e1 dx => (h2.mono e1.gg) H1 _ e1.gh fun y G2 H2 e2 dy => hr x y G2 H2 Q e2.gh (dx.up e2.gg) dy fun v G3 H3 e3 dv => k v G3 H3 ((e1.trans e2).trans e3) dv
/-! ### the built-in functions -/
variable {K : PySem.W.Frag}
theorem RR_all {bs : List Bool} : RR (rAll K) [.list (bs.map .bool)] (.bool (bs.all id)) := fun vs G H Q hs hd k => by
  obtain ⟨x, rfl, hx⟩ := hd.one
  cases hx with
  | lst ha hall =>
    rw [hall.bls] at ha
    exact ⟨_, bs, rfl, SqL.of (hs _ _ ha), k _ G H (.refl hs) (.bl _)⟩
theorem RR_any {bs : List Bool} : RR (rAny K) [.list (bs.map .bool)] (.bool (bs.any id)) := fun vs G H Q hs hd k => by
  obtain ⟨x, rfl, hx⟩ := hd.one
  cases hx with
  | lst ha hall =>
    rw [hall.bls] at ha
    exact ⟨_, bs, rfl, SqL.of (hs _ _ ha), k _ G H (.refl hs) (.bl _)⟩
theorem RR_lenL {es : List PyData} : RR (fun xs H Q => ∃ p ys, xs = [.ref p] ∧ (SqL K H p ys ∨ SqT K H p ys) ∧ Q (.int ys.length) H) [.list es] (.int es.length) := fun vs G H Q hs hd k => by
  obtain ⟨x, rfl, hx⟩ := hd.one
  cases hx with
  | lst ha hall =>
    refine ⟨_, _, rfl, .inl (SqL.of (hs _ _ ha)), ?_⟩
    rw [hall.len]
    exact k _ G H (.refl hs) (.int _)
theorem RR_lenT {es : List PyData} : RR (fun xs H Q => ∃ p ys, xs = [.ref p] ∧ (SqL K H p ys ∨ SqT K H p ys) ∧ Q (.int ys.length) H) [.tuple es] (.int es.length) := fun vs G H Q hs hd k => by
  obtain ⟨x, rfl, hx⟩ := hd.one
  cases hx with
  | tup ha hall =>
    refine ⟨_, _, rfl, .inr (SqT.of (hs _ _ ha)), ?_⟩
    rw [hall.len]
    exact k _ G H (.refl hs) (.int _)
theorem RR_listL {es : List PyData} : RR (fun xs H Q => ∃ p ys, xs = [.ref p] ∧ (SqL K H p ys ∨ SqT K H p ys) ∧ ∀ l, H l = none → Q (.ref l) (upd H l (.lst ys))) [.list es] (.list es) := fun vs G H Q hs hd k => by
  obtain ⟨x, rfl, hx⟩ := hd.one
  cases hx with
  | lst ha hall =>
    exact ⟨_, _, rfl, .inl (SqL.of (hs _ _ ha)), fun l hl => k _ _ _ (.new hs hl) (.lst upd_same (hall.up (same_new (hs.free hl))))⟩
theorem RR_listT {es : List PyData} : RR (fun xs H Q => ∃ p ys, xs = [.ref p] ∧ (SqL K H p ys ∨ SqT K H p ys) ∧ ∀ l, H l = none → Q (.ref l) (upd H l (.lst ys))) [.tuple es] (.list es) := fun vs G H Q hs hd k => by
  obtain ⟨x, rfl, hx⟩ := hd.one
  cases hx with
  | tup ha hall =>
    exact ⟨_, _, rfl, .inr (SqT.of (hs _ _ ha)), fun l hl => k _ _ _ (.new hs hl) (.lst upd_same (hall.up (same_new (hs.free hl))))⟩
theorem RR_tupleL {es : List PyData} : RR (fun xs H Q => ∃ p ys, xs = [.ref p] ∧ ((SqL K H p ys ∧ ∀ l, H l = none → Q (.ref l) (upd H l (.tup ys))) ∨ (SqT K H p ys ∧ Q (.ref p) H))) [.list es] (.tuple es) := fun vs G H Q hs hd k => by
  obtain ⟨x, rfl, hx⟩ := hd.one
  cases hx with
  | lst ha hall =>
    exact ⟨_, _, rfl, .inl ⟨SqL.of (hs _ _ ha), fun l hl => k _ _ _ (.new hs hl) (.tup upd_same (hall.up (same_new (hs.free hl))))⟩⟩
theorem RR_tupleT {es : List PyData} : RR (fun xs H Q => ∃ p ys, xs = [.ref p] ∧ ((SqL K H p ys ∧ ∀ l, H l = none → Q (.ref l) (upd H l (.tup ys))) ∨ (SqT K H p ys ∧ Q (.ref p) H))) [.tuple es] (.tuple es) := fun vs G H Q hs hd k => by
  obtain ⟨x, rfl, hx⟩ := hd.one
  cases hx with
  | tup ha hall =>
    exact ⟨_, _, rfl, .inr ⟨SqT.of (hs _ _ ha), k _ G H (.refl hs) (.tup ha hall)⟩⟩
theorem RR2_eq (s1 : SeqAt.shaped d1 = true) (s2 : SeqAt.shaped d2 = true) : RR2 (rEqD K) d1 d2 (.bool (PyData.eqv d1 d2)) := fun x y G H Q hs h1 h2 k =>
  ⟨d1, d2, h1.toDp s1 hs, h2.toDp s2 hs, s1, s2, k _ G H (.refl hs) (.bl _)⟩
theorem RR2_ne (s1 : SeqAt.shaped d1 = true) (s2 : SeqAt.shaped d2 = true) : RR2 (rNeD K) d1 d2 (.bool (!PyData.eqv d1 d2)) := fun x y G H Q hs h1 h2 k =>
  ⟨d1, d2, h1.toDp s1 hs, h2.toDp s2 hs, s1, s2, k _ G H (.refl hs) (.bl _)⟩
theorem RR2_in {es : List PyData} (s1 : SeqAt.shaped d1 = true) (s2 : SeqAt.shaped (.list es) = true) : RR2 (rInD K) d1 (.list es) (.bool (es.any fun z => PyData.eqv z d1)) := fun x y G H Q hs h1 h2 k =>
  ⟨d1, es, h1.toDp s1 hs, h2.toDp s2 hs, s1, s2, k _ G H (.refl hs) (.bl _)⟩
theorem RR2_notin {es : List PyData} (s1 : SeqAt.shaped d1 = true) (s2 : SeqAt.shaped (.list es) = true) : RR2 (rNotInD K) d1 (.list es) (.bool (!es.any fun z => PyData.eqv z d1)) := fun x y G H Q hs h1 h2 k =>
  ⟨d1, es, h1.toDp s1 hs, h2.toDp s2 hs, s1, s2, k _ G H (.refl hs) (.bl _)⟩
theorem RR2_ixL {es : List PyData} {j : Nat} (h : es[j]? = some d) : RR2 (rIxL K) (.list es) (.int j) d := fun x y G H Q hs h1 h2 k => by
  cases h1 with
  | lst ha hall =>
    cases h2
    obtain ⟨v, e1, e2⟩ := hall.at' h
    exact ⟨_, _, _, v, rfl, rfl, SqL.of (hs _ _ ha), atI_nat e1, k _ G H (.refl hs) e2⟩
theorem RR2_ixT {es : List PyData} {j : Nat} (h : es[j]? = some d) : RR2 (rIxT K) (.tuple es) (.int j) d := fun x y G H Q hs h1 h2 k => by
  cases h1 with
  | tup ha hall =>
    cases h2
    obtain ⟨v, e1, e2⟩ := hall.at' h
    exact ⟨_, _, _, v, rfl, rfl, SqT.of (hs _ _ ha), atI_nat e1, k _ G H (.refl hs) e2⟩
theorem RR2_cat {es fs : List PyData} (z : es.length + fs.length ≤ sizeLine) : RR2 rCat (.list es) (.list fs) (.list (es ++ fs)) := fun x y G H Q hs h1 h2 k => by
  cases h1 with
  | lst ha hall =>
    cases h2 with
    | lst hb hbll =>
      exact ⟨_, _, _, _, rfl, rfl, hs _ _ ha, hs _ _ hb, by rw [hall.len, hbll.len]; exact z, fun p hp => k _ _ _ (.new hs hp) (.lst upd_same ((hall.app hbll).up (same_new (hs.free hp))))⟩
/-! ### tests -/
theorem TR_test (h : PR te σ G (.bool b)) : TR (tTest te) σ G b := fun H Q hs k => h H _ hs fun v G' H' e dv => by
  cases dv
  exact ⟨b, rfl, k H' e.hh⟩
theorem TR_tB (h : PR te σ G (.bool b)) : TR (tB te) σ G b := fun H Q hs k => h H _ hs fun v G' H' e dv => by
  cases dv
  exact ⟨b, rfl, k H' e.hh⟩
theorem TR_not (h : TR tt σ G b) : TR (tNot tt) σ G (!b) := fun H Q hs k => h H _ hs fun H' e => k H' e
theorem TR_and (h : TR tt σ G b) (u : b = true → TR tu σ G c) : TR (tAnd tt tu) σ G (b && c) := fun H Q hs k => h H _ hs fun H' e => by
  cases b with
  | true => exact iteT (u rfl H' Q (hs.trans e) fun H2 e2 => k H2 (e.trans e2))
  | false => exact iteF (k H' e)
theorem TR_or (h : TR tt σ G b) (u : b = false → TR tu σ G c) : TR (tOr tt tu) σ G (b || c) := fun H Q hs k => h H _ hs fun H' e => by
  cases b with
  | true => exact iteT (k H' e)
  | false => exact iteF (u rfl H' Q (hs.trans e) fun H2 e2 => k H2 (e.trans e2))
theorem TR_yes : TR tYes σ G true := fun H Q hs k => k H (Same.refl _)
theorem PR_if (h : TR tt σ G b) (ht : b = true → PR ta σ G d) (hf : b = false → PR tb σ G d) : PR (tIf tt ta tb) σ G d := fun H Q hs k => h H _ hs fun H' e => by
  cases b with
  | true => exact iteT (ht rfl H' Q (hs.trans e) fun v G2 H2 e2 dv => k v G2 H2 ((Ext.more hs e).trans e2) dv)
  | false => exact iteF (hf rfl H' Q (hs.trans e) fun v G2 H2 e2 dv => k v G2 H2 ((Ext.more hs e).trans e2) dv)
theorem PR_andV (h : PR ta σ G (.bool b)) (u : b = true → PR tb σ G (.bool c)) : PR (tAndV ta tb) σ G (.bool (b && c)) := fun H Q hs k => h H _ hs fun v G' H' e dv => by
  cases dv
  refine ⟨b, rfl, ?_⟩
  cases b with
  | true => exact iteT ((u rfl).mono e.gg H' Q e.gh fun v G2 H2 e2 dv => k v G2 H2 (e.trans e2) dv)
  | false => exact iteF (k _ G' H' e (.bl _))
theorem PR_orV (h : PR ta σ G (.bool b)) (u : b = false → PR tb σ G (.bool c)) : PR (tOrV ta tb) σ G (.bool (b || c)) := fun H Q hs k => h H _ hs fun v G' H' e dv => by
  cases dv
  refine ⟨b, rfl, ?_⟩
  cases b with
  | true => exact iteT (k _ G' H' e (.bl _))
  | false => exact iteF ((u rfl).mono e.gg H' Q e.gh fun v G2 H2 e2 dv => k v G2 H2 (e.trans e2) dv)
theorem PR_notV (h : PR ta σ G (.bool b)) : PR (tNotV ta) σ G (.bool (!b)) := fun H Q hs k => h H _ hs fun v G' H' e dv => by
  cases dv
  exact ⟨b, rfl, k _ G' H' e (.bl _)⟩
/-! ### slices from the head: xs[:n] -/
theorem cutV_take {α : Type} (xs : List α) (n : Nat) : (xs.drop (HT.sIx xs.length 0 none)).take (HT.sIx xs.length xs.length (some (n : Int)) - HT.sIx xs.length 0 none) = xs.take n := by
  rw [HT.sIx_none, HT.sIx_nat]
  simp only [List.drop_zero, Nat.sub_zero]
  rw [List.take_eq_take_iff]
  omega
theorem PR_slTo {es : List PyData} {n : Nat} (h1 : PR ta σ G (.list es)) (h2 : PR tb σ G (.int n)) : PR (tSl (rSlL K) ta tNoPart (tPart tb)) σ G (.list (es.take n)) := fun H Q hs k =>
  h1 H _ hs fun x G1 H1 e1 dx => (h2.mono e1.gg) H1 _ e1.gh fun y G2 H2 e2 dy => by
    cases dy
    refine ⟨_, rfl, ?_⟩
    cases dx with
    | lst ha hall =>
      refine ⟨_, _, rfl, SqL.of (e2.hh _ _ (e1.gh _ _ ha)), fun p hp => ?_⟩
      have ec : ∀ xs : List V, cutV xs none (some (n : Int)) = xs.take n := fun xs => cutV_take xs n
      rw [ec]
      exact k _ _ _ ((e1.trans e2).trans (.new e2.gh hp)) (.lst upd_same ((hall.take n).up (e2.gg.trans (same_new (e2.gh.free hp)))))
/-! ### pure defs -/
/-- the def hands back the data that D says of its arguments; nothing that stands is touched -/
def spP (D : List PyData → PyData → Prop) : Sp := fun vs H Q _ => ∃ G ds d, Same G H ∧ DqAll G vs ds ∧ D ds d ∧ ∀ v G' H', Ext G H G' H' → Dq G' v d → Q v H'
theorem PR_call {D : List PyData → PyData → Prop} {E : XK} (h : PRA t σ G ds) (hD : D ds d) : PR (tCall (spP D) [] E t) σ G d := fun H Q hs k =>
  h H _ hs fun vs G1 H1 e1 dv => ⟨G1, ds, d, e1.gh, by rw [List.append_nil]; exact dv, hD, fun v G2 H2 e2 dv2 => k v G2 H2 (e1.trans e2) dv2⟩
/-! ### isinstance -/
def tyOf : PyData → String
  | .none => "NoneType"
  | .bool _ => "bool"
  | .int _ => "int"
  | .str _ => "str"
  | .list _ => "list"
  | .tuple _ => "tuple"
  | .dict _ => "dict"
theorem Dq.ty {H : Hp} {v : V} {d : PyData} (h : Dq H v d) : TyX K H v (.type (tyOf d)) := by
  cases h with
  | non => exact .base .non
  | bl b => exact .base (.bl b)
  | int i => exact .base (.int i)
  | str x => exact .base (.str x)
  | lst h _ => exact .base (.lst h)
  | tup h _ => exact .base (.tup h)
  | dict h => exact .base (.dK h)
theorem PR_isi {T : String} (h : PR te σ G d) (hk : kitB (tyOf d) T = some b) : PR (tCB (rIsi K) (tCons te (tCons (tC (.ty T)) tNil))) σ G (.bool b) := fun H Q hs k =>
  h H _ hs fun v G1 H1 e1 dv => ⟨v, .ty T, _, _, b, rfl, .ty T, (dv.up e1.gh).ty, kit_ty hk, k _ G1 H1 e1 (.bl b)⟩
theorem kit2 {K : PySem.W.Frag} {x T U : String} {b c : Bool} (hk : kitB x T = some b) (hu : kitB x U = some c) : PySem.W.kitAny K (.type x) [.type T, .type U] = some (b || c) := by
  refine kitAny_cons (kit_ty hk) (fun e => ?_) (fun e => by rw [e]; rfl)
  rw [e, Bool.false_or]
  exact kitAny_cons (kit_ty hu) (fun e2 => by rw [e2]; exact kitAny_nil) (fun e2 => e2)
theorem PR_isi2 {T U : String} {c : Bool} (h : PR te σ G d) (hk : kitB (tyOf d) T = some b) (hu : kitB (tyOf d) U = some c) :
    PR (tCB (rIsiT K) (tCons te (tCons (tTup (tCons (tC (.ty T)) (tCons (tC (.ty U)) tNil))) tNil))) σ G (.bool (b || c)) := fun H Q hs k =>
  h H _ hs fun v G1 H1 e1 dv => ⟨by show 2 ≤ sizeLine; rw [sizeLine_eq]; omega, fun p hp =>
    ⟨v, p, [.ty T, .ty U], _, [.type T, .type U], b || c, rfl, upd_same, .cons (.ty T) (.cons (.ty U) .nil), ((dv.up e1.gh).up (same_new hp)).ty,
      kit2 hk hu,
      k _ G1 _ (e1.trans (Ext.more e1.gh (same_new hp))) (.bl _)⟩⟩
end
end PD
set_option Elab.async false
set_option linter.all false
set_option maxRecDepth 100000
set_option maxHeartbeats 4000000
/-! PdSort: sorted of data that can be compared place by place, tuples without items among them; sorted by len -/
namespace PD
open PySem PySem.W PySem.SeqAt PyProof.Rows
section
variable {prog : Program} {w : World} {A : Around} {E : Value → Shared → Prop} {s : Shared}
/-- the first items of tuples -/
def frst : PyData → Bool
  | .tuple (_ :: _) => true
  | _ => false
theorem mapFirsts : ∀ {vs : List Value} {ds : List PyData} {Q : List (Option Value) → Shared → Prop}, EachIs (fun v d => ∃ as, Reads s.heap v d as) vs ds → (∀ d, d ∈ ds → ∃ xs, d = .tuple xs) →
    (∀ fs : List (Option Value), fs.map (·.isSome) = ds.map frst → Q fs s) → wpAny (model prog w) A (vs.mapM firstOfTuple') Q E s
  | _, _, Q, .nil, _, h => by
    rw [List.mapM_nil]
    exact wpAny_pure (h [] rfl)
  | _, _, Q, .cons (a := v) (b := d) (as := vs) (bs := ds) ⟨as, r⟩ t, hd, h => by
    rw [List.mapM_cons, kas_first_eq]
    obtain ⟨xs, rfl⟩ := hd d (List.mem_cons_self ..)
    have lk : Looks (model prog w) s.heap (typeOf v) (Value.type "tuple") := looks_reads r
    cases r with
    | @tuple l o its n _ _ h1 h2 h3 h4 =>
      refine wpAny_bind (wpAny_bind (lk.here ?_))
      rw [if_neg (by simp)]
      refine wpAny_bind (listItems_at h1 h3 (wpAny_pure ?_))
      refine wpAny_bind (mapFirsts t (fun d m => hd d (List.mem_cons_of_mem _ m)) fun fs e => wpAny_pure (h _ ?_))
      rw [List.map_cons, List.map_cons, e]
      have n1 : its.size = xs.length := by simpa using SeqAt.ReadsAll.length _ _ _ h4
      congr 1
      cases xs with
      | nil =>
        have : its[0]? = none := by rw [Array.getElem?_eq_none_iff, n1]; simp
        rw [this]; rfl
      | cons x r =>
        have : ∃ y, its[0]? = some y := ⟨its[0]'(by rw [n1]; simp), by simp⟩
        obtain ⟨y, e⟩ := this
        rw [e]; rfl
/-- tuples, one of them without items -/
theorem tupKind {vs : List Value} {ds : List PyData} {Q : SortKind → Shared → Prop} (e : EachIs (fun v d => ∃ as, Reads s.heap v d as) vs ds) (ht : ∀ d, d ∈ ds → ∃ xs, d = .tuple xs) (hm : PyData.tuple [] ∈ ds)
    (h : Q (if (ds.map frst).head? = some true then general' else oneType') s) : wpAny (model prog w) A (keyKind' vs.toArray) Q E s := by
  rw [keyKind'_eq, List.mapM_toArray, map_eq_pure_bind]
  refine wpAny_bind (wpAny_bind (mapFirsts e ht fun fs ef => wpAny_pure ?_))
  have h1 : (fs.toArray.all fun x => x.isSome) = false := by
    rw [List.all_toArray]
    have : (fs.map (·.isSome)).all id = false := by
      rw [ef, List.all_eq_false]
      exact ⟨false, List.mem_map.mpr ⟨_, hm, rfl⟩, by simp⟩
    rw [List.all_map] at this
    exact this
  rw [if_neg (by rw [h1]; simp)]
  have h2 : (fs.toArray[0]?.bind id).isSome = decide ((ds.map frst).head? = some true) := by
    rw [← ef]
    cases fs with
    | nil => rfl
    | cons f r => cases f <;> simp
  rw [h2]
  by_cases q : (ds.map frst).head? = some true
  · rw [if_pos (by simpa using q)]
    rw [if_pos q] at h
    exact wpAny_pure h
  · rw [if_neg (by simpa using q)]
    rw [if_neg q] at h
    rw [oneTypeOnly'_eq, List.mapM_toArray, map_eq_pure_bind]
    refine wpAny_bind (wpAny_bind (wpAny_bind (kas_mapM (r := Value.type "tuple") _ (fun v hv Q' hq => ?_) (wpAny_pure ?_))))
    · obtain ⟨d, hd, as, r⟩ := e.left v hv
      obtain ⟨xs, rfl⟩ := ht d hd
      exact (looks_reads r).here hq
    · have hne : vs ≠ [] := by
        intro z
        subst z
        cases e
        simp at hm
      obtain ⟨v, r, rfl⟩ : ∃ v r, vs = v :: r := by
        cases vs with
        | nil => exact absurd rfl hne
        | cons v r => exact ⟨v, r, rfl⟩
      have h0 : (List.map (fun _ => Value.type "tuple") (v :: r)).toArray[0]? = some (Value.type "tuple") := by simp
      have hall : ((List.map (fun _ => Value.type "tuple") (v :: r)).toArray.all fun x => x == Value.type "tuple") = true := by
        simp only [List.all_toArray, List.all_map, List.all_eq_true]
        intro _ _
        exact beq_self_eq_true _
      rw [h0]
      simp only [hall, if_true]
      exact wpAny_pure (wpAny_pure h)
theorem callTupLt {E : Value → Shared → Prop} {Q : Value → Shared → Prop} {l b : Addr} {items items2 : Array Value} {e r : Nat → Bool} (hl : s.heap.IsTuple l items) (hb : s.heap.IsTuple b items2)
    (he : ∀ j (h1 : j < items.size) (h2 : j < items2.size), EqAt A.in1 s items[j] items2[j] (e j)) (hr : ∀ j (h1 : j < items.size) (h2 : j < items2.size), e j = false → RcLt A.in1 s items[j] items2[j] (r j))
    (h : Q (.bool (firstLt e r (decide (items.size < items2.size)) (List.range (min items.size items2.size)))) s) : wpAny (model prog w) A (call (.builtin "tuple.__lt__") [.ref l, .ref b]) Q E s := by
  obtain ⟨⟨c1, d1, t1, s1⟩, ho, hc, n, hd⟩ := id hl
  obtain ⟨⟨c2, d2, t2, s2⟩, ho2, hc2, n2, hd2⟩ := id hb
  simp only at hc hd hc2 hd2
  subst hc hd hc2 hd2
  exact call_meets F.slot_tuple_lt ⟨_, ho, rfl⟩ F.entry_tuple_lt (F.args_tuple_lt_2 _ _) (tuple_ltAt l b items items2 n n2 d1 d2 s1 s2 e r) ⟨ho, ho2, he, hr, h⟩
/-- one tuple against another, as sorting one type asks -/
theorem oneLtTup {xs ys : List PyData} {a b : Value} {as bs : List Addr} {Q : Bool → Shared → Prop} (ra : Reads s.heap a (.tuple xs) as) (rb : Reads s.heap b (.tuple ys) bs) (h : alike (.tuple xs) (.tuple ys) = true)
    (hu : A.units + min (PyData.depth (.tuple xs)) (PyData.depth (.tuple ys)) < cLine) (hq : Q (dataLt (.tuple xs) (.tuple ys)) s) : wpAny (model prog w) A (oneLt' true a b) Q E s := by
  have hal : alikeAll xs ys = true := by simpa [alike] using h
  cases ra with
  | @tuple l o vs n _ as₁ h1 h2 h3 h4 =>
    cases rb with
    | @tuple l' o' vs' n' _ bs₁ k1 k2 k3 k4 =>
      have n1 : vs.size = xs.length := by simpa using ReadsAll.length _ _ _ h4
      have n2 : vs'.size = ys.length := by simpa using ReadsAll.length _ _ _ k4
      have hi : A.units + 1 + min (PyData.depthAll xs) (PyData.depthAll ys) < cLine := by
        have q : A.units + min (PyData.depthAll xs + 1) (PyData.depthAll ys + 1) < cLine := by simpa [PyData.depth, Nat.add_comm] using hu
        exact room_in q
      rw [dataLt_tuple, ← firstLt_toks xs ys hal, ← n1, ← n2] at hq
      rw [oneLt'_eq, if_pos rfl]
      refine wpAny_bind (wpAny_cRoomFor (room_here hu) (wpAny_bind (wpAny_callSpecialIfBound?_slot (T := "tuple") ⟨_, h1, h2⟩ F.slot_tuple_lt
        (callTupLt (e := pairEq xs ys) (r := fun j => dataLt (xs.getD j .none) (ys.getD j .none)) ⟨_, h1, h2, _, h3⟩ ⟨_, k1, k2, _, k3⟩ (fun j j1 j2 => ?_) (fun j j1 j2 hj => ?_) ?_))))
      · exact eqAt_alikeAll xs ys A.in1 s vs.toList vs'.toList _ _ h4 k4 hal hi j (by simpa using j1) (by simpa using j2)
      · exact rcLt_alikeAll xs ys A.in1 s vs.toList vs'.toList _ _ h4 k4 hal hi j (by simpa using j1) (by simpa using j2) hj
      · exact wpAny_truthy_bool hq
/-- all tuples, some without items -/
theorem sortsAtTup {vs : List Value} {ds : List PyData} (e : EachIs (fun v d => ∃ as, Reads s.heap v d as) vs ds) (hal : AllAlike ds) (ht : ∀ d, d ∈ ds → ∃ xs, d = .tuple xs) (hm : PyData.tuple [] ∈ ds) (hu : ∀ d, d ∈ ds → A.units + d.depth < cLine) :
    SortsAt prog w A s (dataKind s.heap ds) vs := by
  have room : ∀ {d d' : PyData}, d ∈ ds → A.units + min d.depth d'.depth < cLine := fun {d d'} hd => Nat.lt_of_le_of_lt (Nat.add_le_add_left (Nat.min_le_left _ _) _) (hu d hd)
  refine ⟨fun v hv => ?_, _, ?_, fun _ E Q hq => tupKind e ht hm hq⟩
  · obtain ⟨d, hd, as, r⟩ := e.left v hv
    exact ⟨_, dataKind_some hal hd r⟩
  · intro E x y a b Q ha hb hq
    obtain ⟨d, as, hd, ra, rfl⟩ := dataKind_inv ha
    obtain ⟨d', as', hd', rb, rfl⟩ := dataKind_inv hb
    obtain ⟨xs, rfl⟩ := ht d hd
    obtain ⟨ys, rfl⟩ := ht d' hd'
    split
    · exact oneLt_alike (f := false) (fun z => by cases z) ra rb (hal _ hd _ hd') (by simp) (room hd) hq
    · exact oneLtTup ra rb (hal _ hd _ hd') (room hd) hq
/-- alike data, no None: sorting them is defined -/
theorem sortsAtAny {vs : List Value} {ds : List PyData} (e : EachIs (fun v d => ∃ as, Reads s.heap v d as) vs ds) (hal : AllAlike ds) (hn : ∀ d, d ∈ ds → d ≠ .none) (hu : ∀ d, d ∈ ds → A.units + d.depth < cLine) :
    SortsAt prog w A s (dataKind s.heap ds) vs := by
  by_cases hm : PyData.tuple [] ∈ ds
  · refine sortsAtTup e hal (fun d hd => ?_) hm hu
    have q := hal _ hm d hd
    cases d with
    | tuple xs => exact ⟨xs, rfl⟩
    | _ => simp [alike] at q
  · refine SortsAt.data e hal ?_ hu
    by_cases ht : ∃ xs, PyData.tuple xs ∈ ds
    · obtain ⟨xs, hx⟩ := ht
      refine .inl fun d hd => ?_
      have q := hal _ hx d hd
      cases d with
      | tuple ys =>
        cases ys with
        | nil => exact absurd hd hm
        | cons y r => exact ⟨y, r, rfl⟩
      | _ => simp [alike] at q
    · exact .inr fun d hd => ⟨hn d hd, fun xs z => ht ⟨xs, z ▸ hd⟩⟩
end
end PD

namespace PD
open PySem PySem.Spec PyProof.Rows L2
/-- a before b or level with it -/
def leD (a b : PyData) : Bool := !PySem.W.dataLt b a
/-- THE sorted list -/
def sortD (ds : List PyData) : List PyData := ds.mergeSort leD
theorem dpAll_len {K : PySem.W.Frag} {H : Hp} : ∀ {vs : List V} {ds : List PyData}, DpAll K H vs ds → vs.length = ds.length
  | _, _, .nil => rfl
  | _, _, .cons _ t => by simp [dpAll_len t]
theorem dpAll_each {X : Cx} {pins : List (Addr × Obj)} {σ : L2.St} {H : Hp} {s : Shared} (I : Inv X pins σ H s) : ∀ {xs : List V} {ds : List PyData} {us : List Value}, DpAll X.K H xs ds → Vals xs us →
    PySem.W.EachIs (fun u (b : V × PyData) => RelV b.1 u ∧ Dp X.K H b.1 b.2) us (xs.zip ds)
  | _, _, _, .nil, .nil => .nil
  | _, _, _, .cons h t, .cons r q => .cons ⟨r, h⟩ (dpAll_each I t q)
theorem each_vals {α : Type} {R : Value → V × α → Prop} (hR : ∀ u b, R u b → RelV b.1 u) : ∀ {us : List Value} {bs : List (V × α)}, PySem.W.EachIs R us bs → Vals (bs.map (·.1)) us
  | _, _, .nil => .nil
  | _, _, .cons h t => .cons (hR _ _ h) (each_vals hR t)
theorem zip_snd {α β : Type} : ∀ {xs : List α} {ys : List β}, xs.length = ys.length → (xs.zip ys).map (·.2) = ys
  | [], [], _ => rfl
  | x :: xs, y :: ys, h => by simp [zip_snd (xs := xs) (ys := ys) (by simpa using h)]
  | [], _ :: _, h => by simp at h
  | _ :: _, [], h => by simp at h
theorem zip_fst {α β : Type} : ∀ {xs : List α} {ys : List β}, xs.length = ys.length → (xs.zip ys).map (·.1) = xs
  | [], [], _ => rfl
  | x :: xs, y :: ys, h => by simp [zip_fst (xs := xs) (ys := ys) (by simpa using h)]
  | [], _ :: _, h => by simp at h
  | _ :: _, [], h => by simp at h
/-- sorted(xs) of alike data -/
def rSortedD (K : PySem.W.Frag) : List V → Hp → VK → Prop := fun vs H Q => ∃ (a : Addr) (xs : List V) (ds : List PyData), vs = [.ref a] ∧ SqL K H a xs ∧ DpAll K H xs ds ∧ PySem.W.AllAlike ds ∧ (∀ d, d ∈ ds → d ≠ .none ∧ d.depth ≤ 60) ∧
  ∀ (zs : List (V × PyData)) (p : Addr), zs.Perm (xs.zip ds) → zs.map (·.2) = sortD ds → H p = none → Q (.ref p) (upd H p (.lst (zs.map (·.1))))
theorem cr_sortedD {X : Cx} (hu : X.A.units + 64 < cLine) : CallR X (.builtin "sorted") (rSortedD X.K) := by
  intro pins s σ H vs us Q I r h
  obtain ⟨a, xs, ds, rfl, hs, hd, hal, hn, q⟩ := h
  obtain ⟨its, rv, hl, hz⟩ := I.list hs
  obtain ⟨u, rfl, ru⟩ := vals1 r
  obtain rfl : u = Value.ref a := ru
  have hlen : xs.length = ds.length := dpAll_len hd
  have e := dpAll_each I hd rv
  have e2 := zip_snd hlen
  have er : ∀ (h' : Heap), (∀ b o, s.heap.get? b = some o → h'.get? b = some o) → PySem.W.EachIs (fun v d => ∃ as, Reads h' v d as) its ((xs.zip ds).map (·.2)) := fun h' hk =>
    PySem.W.each_map (R := fun v d => ∃ as, Reads h' v d as) (fun b : V × PyData => b.2) (e.mono fun u b ⟨r1, r2⟩ => by
      obtain ⟨as, x⟩ := Dp.reads I b.2 b.1 u r2 r1
      exact ⟨as, PyProof.Rows.Reads.keeps (fun b o => hk b o) x⟩)
  have hk := er (PySem.W.sortingHeap (PySem.W.copyHeap s.heap its) (s.heap.objs.size + 1) its) fun b o q => PySem.W.sorting_copy_old q
  refine PySem.W.sorted_vals hl.isList (sortsAtAny (s := { s with heap := PySem.W.sortingHeap (PySem.W.copyHeap s.heap its) (s.heap.objs.size + 1) its }) hk (by rw [e2]; exact hal) (by rw [e2]; exact fun d m => (hn d m).1) (by
    rw [e2]
    intro d m
    have := (hn d m).2
    show X.A.units + 2 + d.depth < cLine
    omega)) (by rw [← rv.length]; exact hz) ?_
  have out := PySem.W.sortVals_data (R := fun u (b : V × PyData) => RelV b.1 u ∧ Dp X.K H b.1 b.2) (enc := fun b : V × PyData => b.2) false e (e.mono fun u b ⟨r1, r2⟩ => by
      obtain ⟨as, x⟩ := Dp.reads I b.2 b.1 u r2 r1
      exact ⟨as, PyProof.Rows.Reads.keeps (fun b o q => PySem.W.sorting_copy_old q) x⟩ : PySem.W.EachIs (fun v (b : V × PyData) => ∃ as, Reads (PySem.W.sortingHeap (PySem.W.copyHeap s.heap its) (s.heap.objs.size + 1) its) v b.2 as) its (xs.zip ds)) (by rw [e2]; exact hal)
  generalize PySem.W.sortVals (PySem.W.dataKind (PySem.W.sortingHeap (PySem.W.copyHeap s.heap its) (s.heap.objs.size + 1) its) ((xs.zip ds).map fun b => b.2)) false its its = ov at out ⊢
  have hv := each_vals (fun u b (h : RelV b.1 u ∧ Dp X.K H b.1 b.2) => h.1) out
  obtain ⟨ep, he'⟩ := PyProof.Rows.sortedAll_at s.heap its ov.toArray
  have hp := List.mergeSort_perm (xs.zip ds) (PySem.W.dataLe false fun b : V × PyData => b.2)
  refine ⟨.ref _, upd H (s.heap.objs.size + 1) (.lst (((xs.zip ds).mergeSort (PySem.W.dataLe false fun b => b.2)).map (·.1))), I.laid (t' := s.toks) (fun _ _ => PyProof.Rows.sortedAll_old) (Nat.le_succ _) ⟨?_, ov, ep, hv, he'⟩, rfl, q _ _ hp ?_ (I.hok.fresh (Nat.le_succ _))⟩
  · rw [List.length_map, hp.length_eq, List.length_zip]
    omega
  · have m := List.map_mergeSort (r := PySem.W.dataLe false fun b : V × PyData => b.2) (s := leD) (f := fun b : V × PyData => b.2) (l := xs.zip ds) (fun a _ b _ => rfl)
    rw [m, e2]
    rfl
theorem dqAll_zip {G : Hp} : ∀ {vs : List V} {ds : List PyData}, DqAll G vs ds → ∀ b, b ∈ vs.zip ds → Dq G b.1 b.2
  | _, _, .nil, b, h => by simp at h
  | _, _, .cons h t, b, m => by
    rw [List.zip_cons_cons] at m
    rcases List.mem_cons.mp m with rfl | m
    · exact h
    · exact dqAll_zip t b m
theorem dqAll_of {G : Hp} : ∀ {zs : List (V × PyData)}, (∀ b, b ∈ zs → Dq G b.1 b.2) → DqAll G (zs.map (·.1)) (zs.map (·.2))
  | [], _ => .nil
  | b :: zs, h => .cons (h b (List.mem_cons_self ..)) (dqAll_of fun c m => h c (List.mem_cons_of_mem _ m))
/-- what can be sorted -/
def SortOk (ds : List PyData) : Prop := PySem.W.AllAlike ds ∧ ∀ d, d ∈ ds → d ≠ .none ∧ d.depth ≤ 60 ∧ noDict d = true
theorem noDictL_of {ds : List PyData} (h : ∀ d, d ∈ ds → noDict d = true) : noDictL ds = true := by
  induction ds with
  | nil => rfl
  | cons d ds ih => rw [noDictL, h d (List.mem_cons_self ..), ih fun e m => h e (List.mem_cons_of_mem _ m)]; rfl
theorem RR_sorted {K : PySem.W.Frag} {ds : List PyData} (h : SortOk ds) : RR (rSortedD K) [.list ds] (.list (sortD ds)) := fun vs G H Q hs hd k => by
  obtain ⟨x, rfl, hx⟩ := hd.one
  cases hx with
  | lst ha hall =>
    refine ⟨_, _, ds, rfl, SqL.of (hs _ _ ha), DqAll.dp ds _ (hall.up hs) (noDictL_of fun d m => (h.2 d m).2.2), h.1, fun d m => ⟨(h.2 d m).1, (h.2 d m).2.1⟩, fun zs p hp e hn => ?_⟩
    refine k _ _ _ (.new hs hn) (.lst upd_same ?_)
    rw [← e]
    exact DqAll.up (dqAll_of fun b m => dqAll_zip hall b (hp.mem_iff.mp m)) (same_new (hs.free hn))
end PD
set_option Elab.async false
set_option linter.all false
set_option maxRecDepth 100000
set_option maxHeartbeats 4000000
/-! PdComp: what is walked, as data; list comprehensions that make new data -/
namespace PD
open PySem PySem.Spec PyProof.Rows L2 RZ
/-- J gives data that stand for ds, one a turn -/
structure DW (J : It) (G : Hp) (ds : List PyData) : Prop where
  w : Walk J ds.length (fun H => Same G H) (fun i H x H' => ∃ d, ds[i]? = some d ∧ Same H H' ∧ ∀ G1, Same G G1 → Same G1 H → ∃ G2, Ext G1 H G2 H' ∧ Dq G2 x d)
def WR (wi : TI) (σ : L2.St) (G : Hp) (ds : List PyData) : Prop := ∀ (H : Hp) (R : It → Hp → Prop), Same G H → (∀ J G' H', Ext G H G' H' → DW J G' ds → R J H') → wi σ H R
section
variable {K : PySem.W.Frag} {σ : L2.St} {G : Hp} {ds es : List PyData} {te ta tl : TE} {t : TA}
theorem DW_list {a : Addr} {xs : List V} (h : G a = some (.lst xs)) (hd : DqAll G xs ds) : DW (Itl K a) G ds := by
  refine ⟨?_⟩
  rw [← hd.len]
  refine walk_list.mono (fun H hs => SqL.of (hs _ _ h)) fun i H x H' hi hs y => ?_
  obtain ⟨rfl, e⟩ := y
  obtain ⟨d, e1, e2⟩ := hd.get e
  exact ⟨d, e1, Same.refl _, fun G1 g1 h1 => ⟨G1, .refl h1, e2.up g1⟩⟩
theorem DW_tup {a : Addr} {xs : List V} (h : G a = some (.tup xs)) (hd : DqAll G xs ds) : DW (Itt K a) G ds := by
  refine ⟨?_⟩
  rw [← hd.len]
  refine walk_tup.mono (fun H hs => SqT.of (hs _ _ h)) fun i H x H' hi hs y => ?_
  obtain ⟨rfl, e⟩ := y
  obtain ⟨d, e1, e2⟩ := hd.get e
  exact ⟨d, e1, Same.refl _, fun G1 g1 h1 => ⟨G1, .refl h1, e2.up g1⟩⟩
theorem WR_list (h : PR tl σ G (.list ds)) : WR (iList K tl) σ G ds := fun H R hs k => h H _ hs fun v G1 H1 e1 dv => by
  cases dv with
  | lst ha hd => exact ⟨_, rfl, ⟨_, SqL.of (e1.gh _ _ ha)⟩, k _ G1 H1 e1 (DW_list ha hd)⟩
theorem WR_tup (h : PR tl σ G (.tuple ds)) : WR (iTup K tl) σ G ds := fun H R hs k => h H _ hs fun v G1 H1 e1 dv => by
  cases dv with
  | tup ha hd => exact ⟨_, rfl, ⟨_, SqT.of (e1.gh _ _ ha)⟩, k _ G1 H1 e1 (DW_tup ha hd)⟩
/-- a list or a tuple -/
def iSeq (K : PySem.W.Frag) (tl : TE) : TI := fun σ H R => tl σ H fun x H1 => ∃ a, x = .ref a ∧ ((∃ xs, SqL K H1 a xs ∧ R (Itl K a) H1) ∨ ∃ xs, SqT K H1 a xs ∧ R (Itt K a) H1)
theorem pi_seq {X : Cx} {tg l : Expr} (hl : PE X l tl) : PI X tg l (iSeq X.K tl) := by
  refine ⟨fun pins s σ H R I h => thn (hl.run pins s σ H _ I h) fun v s1 ⟨x, H1, I1, r1, q1⟩ => ?_⟩
  obtain ⟨a, rfl, q⟩ := q1
  cases r1
  have ok : ∀ {it : Addr}, it = s1.heap.objs.size → ∀ b, b ∈ [it] → FpOk X pins H1 b := fun {it} e b hb => by
    have e2 : b = it := List.mem_singleton.mp hb
    rw [e2, e]
    exact I1.fpOk (Nat.le_refl _) I1.fresh
  have kp : ∀ (o : Obj), Inv X pins σ H1 { s1 with heap := s1.heap.push o } := fun o => I1.kept (t' := s1.toks) fun b u e => Heap.get?_push_of_some _ e
  rcases q with ⟨xs, hq, q⟩ | ⟨xs, hq, q⟩
  · obtain ⟨its, rv, p, hz⟩ := I1.list hq
    exact wpAny_pyIter_list p.isList ⟨_, _, _, _, H1, rfl, kp _, turn_list a _, ⟨_, Heap.get?_push_size _ rfl, rfl, rfl⟩, ok rfl, q⟩
  · obtain ⟨its, rv, p, hz⟩ := I1.tuple hq
    exact wpAny_pyIter_tuple (show s1.heap.IsTuple a its.toArray from p) ⟨_, _, _, _, H1, rfl, kp _, turn_tuple a _, ⟨_, Heap.get?_push_size _ rfl, rfl, rfl⟩, ok rfl, q⟩
theorem WR_seqL (h : PR tl σ G (.list ds)) : WR (iSeq K tl) σ G ds := fun H R hs k => h H _ hs fun v G1 H1 e1 dv => by
  cases dv with
  | lst ha hd => exact ⟨_, rfl, .inl ⟨_, SqL.of (e1.gh _ _ ha), k _ G1 H1 e1 (DW_list ha hd)⟩⟩
theorem WR_seqT (h : PR tl σ G (.tuple ds)) : WR (iSeq K tl) σ G ds := fun H R hs k => h H _ hs fun v G1 H1 e1 dv => by
  cases dv with
  | tup ha hd => exact ⟨_, rfl, .inr ⟨_, SqT.of (e1.gh _ _ ha), k _ G1 H1 e1 (DW_tup ha hd)⟩⟩
/-- pairs that are new each turn -/
theorem pairNew {H H' : Hp} {T : Addr} {x y : V} {d e : PyData} (hT : H T = none) (e1 : H' = upd H T (.tup [x, y])) {G1 : Hp} (h1 : Same G1 H) (hx : Dq G1 x d) (hy : Dq G1 y e) : ∃ G2, Ext G1 H G2 H' ∧ Dq G2 (.ref T) (.tuple [d, e]) := by
  subst e1
  have sg := same_new (o := .tup [x, y]) (h1.free hT)
  exact ⟨upd G1 T (.tup [x, y]), .new h1 hT, .tup upd_same (.cons (hx.up sg) (.cons (hy.up sg) .nil))⟩
def enumD : Nat → List PyData → List PyData
  | _, [] => []
  | k, d :: ds => .tuple [.int (k : Nat), d] :: enumD (k + 1) ds
theorem enumD_len : ∀ (k : Nat) (ds : List PyData), (enumD k ds).length = ds.length
  | _, [] => rfl
  | k, d :: ds => by simp [enumD, enumD_len (k + 1) ds]
theorem enumD_get : ∀ (k : Nat) (ds : List PyData) (i : Nat) (d : PyData), ds[i]? = some d → (enumD k ds)[i]? = some (.tuple [.int ((k + i : Nat) : Int), d])
  | _, [], i, d, h => by simp at h
  | k, x :: ds, 0, d, h => by simp at h; subst h; rfl
  | k, x :: ds, i + 1, d, h => by
    have q := enumD_get (k + 1) ds i d (by simpa using h)
    have e : k + 1 + i = k + (i + 1) := by omega
    rw [e] at q
    simpa [enumD] using q
theorem WR_enum (h : PRA t σ G [.list ds]) : WR (iEnum K t) σ G (enumD 0 ds) := fun H R hs k => h H _ hs fun vs G1 H1 e1 dv => by
  obtain ⟨x, rfl, hx⟩ := dv.one
  cases hx with
  | lst ha hd =>
    refine ⟨_, _, rfl, SqL.of (e1.gh _ _ ha), k _ G1 H1 e1 ⟨?_⟩⟩
    rw [enumD_len, ← hd.len]
    refine walk_enum.mono (fun H hs => SqL.of (hs _ _ ha)) fun i H x H' hi hs y => ?_
    obtain ⟨T, a, b, rfl, hT, e, ea, eb⟩ := y
    cases ea
    obtain ⟨d, q1, q2⟩ := hd.get eb
    refine ⟨_, by simpa using enumD_get 0 ds i d q1, by rw [e]; exact same_new hT, fun G2 g2 h2 => pairNew hT e h2 (.int _) (q2.up g2)⟩
def zipD (ds es : List PyData) : List PyData := List.zipWith (fun a b => .tuple [a, b]) ds es
theorem DW_zipL {a b : Addr} {xs ys : List V} (h : G a = some (.lst xs)) (hd : DqAll G xs ds) (h' : G b = some (.lst ys)) (he : DqAll G ys es) : DW (Itz K a b) G (zipD ds es) := by
  refine ⟨?_⟩
  have hl : (zipD ds es).length = min xs.length ys.length := by rw [zipD, List.length_zipWith, hd.len, he.len]
  refine (walk_zip hl).mono (fun H hs => ⟨SqL.of (hs _ _ h), SqL.of (hs _ _ h')⟩) fun i H x H' hi hs y => ?_
  obtain ⟨T, u, v, rfl, hT, e, eu, ev⟩ := y
  obtain ⟨d, q1, q2⟩ := hd.get eu
  obtain ⟨d', q3, q4⟩ := he.get ev
  exact ⟨.tuple [d, d'], by rw [zipD, List.getElem?_zipWith, q1, q3], by rw [e]; exact same_new hT, fun G2 g2 h2 => pairNew hT e h2 (q2.up g2) (q4.up g2)⟩
theorem DW_zipT {a b : Addr} {xs ys : List V} (h : G a = some (.tup xs)) (hd : DqAll G xs ds) (h' : G b = some (.tup ys)) (he : DqAll G ys es) : DW (ItzT K a b) G (zipD ds es) := by
  have hl : (zipD ds es).length = min xs.length ys.length := by rw [zipD, List.length_zipWith, hd.len, he.len]
  refine ⟨⟨fun i H hi hs => ?_, fun H hs => ⟨xs, ys, SqT.of (hs _ _ h), SqT.of (hs _ _ h'), by omega⟩, fun i H x H' hi hs y => ?_⟩⟩
  · exact ⟨xs, ys, xs[i]'(by omega), ys[i]'(by omega), SqT.of (hs _ _ h), SqT.of (hs _ _ h'), List.getElem?_eq_getElem (by omega), List.getElem?_eq_getElem (by omega)⟩
  · obtain ⟨T, u, v, rfl, hT, e, eu, ev⟩ := y
    obtain ⟨d, q1, q2⟩ := hd.get (eu xs (SqT.of (hs _ _ h)))
    obtain ⟨d', q3, q4⟩ := he.get (ev ys (SqT.of (hs _ _ h')))
    exact ⟨.tuple [d, d'], by rw [zipD, List.getElem?_zipWith, q1, q3], by rw [e]; exact same_new hT, fun G2 g2 h2 => pairNew hT e h2 (q2.up g2) (q4.up g2)⟩
theorem WR_zipL (h : PRA t σ G [.list ds, .list es]) : WR (iZipA K t) σ G (zipD ds es) := fun H R hs k => h H _ hs fun vs G1 H1 e1 dv => by
  obtain ⟨x, y, rfl, hx, hy⟩ := dv.two
  cases hx with
  | lst ha hd =>
    cases hy with
    | lst hb he => exact ⟨_, _, _, _, rfl, .inl ⟨SqL.of (e1.gh _ _ ha), SqL.of (e1.gh _ _ hb), k _ G1 H1 e1 (DW_zipL ha hd hb he)⟩⟩
theorem WR_zipT (h : PRA t σ G [.tuple ds, .tuple es]) : WR (iZipA K t) σ G (zipD ds es) := fun H R hs k => h H _ hs fun vs G1 H1 e1 dv => by
  obtain ⟨x, y, rfl, hx, hy⟩ := dv.two
  cases hx with
  | tup ha hd =>
    cases hy with
    | tup hb he => exact ⟨_, _, _, _, rfl, .inr ⟨SqT.of (e1.gh _ _ ha), SqT.of (e1.gh _ _ hb), k _ G1 H1 e1 (DW_zipT ha hd hb he)⟩⟩
theorem WR_range1 {n : Nat} (hn : n < 2 ^ 62) (h : PRA t σ G [.int n]) : WR (iRng1 t) σ G ((List.range n).map fun i => .int (i : Nat)) := fun H R hs k => h H _ hs fun vs G1 H1 e1 dv => by
  obtain ⟨x, rfl, hx⟩ := dv.one
  cases hx
  refine ⟨n, rfl, by omega, by omega, k _ G1 H1 e1 ⟨?_⟩⟩
  rw [List.length_map, List.length_range, Int.toNat_natCast]
  refine walk_range.mono (fun _ _ => trivial) fun i H x H' hi hs y => ?_
  obtain ⟨rfl, rfl⟩ := y
  refine ⟨.int (i : Nat), by simp [hi], Same.refl _, fun G2 g2 h2 => ⟨G2, .refl h2, ?_⟩⟩
  have e0 : (0 : Int) + (i : Int) = (i : Int) := Int.zero_add _
  show Dq G2 (.int (0 + (i : Int))) (.int (i : Nat))
  rw [e0]
  exact .int _
end

/-! ### comprehensions -/
section
variable {K : PySem.W.Frag} {σ : L2.St} {G : Hp} {wi : TI} {g : TG} {tt : TT} {te : TE} {vs : List Nat} {β : Type} {bs : List β} {enc f : β → PyData} {p : β → Bool}
theorem PR_lc {S : Hp → β → L2.St → Prop} (hw : WR wi σ G (bs.map enc))
    (hg : ∀ x b G1 H (k : L2.St → Hp → Prop), b ∈ bs → Dq G1 x (enc b) → Same G1 H → (∀ σ', wipe σ' vs = wipe σ vs → S G1 b σ' → k σ' H) → g x (wipe σ vs) H k)
    (hstep : ∀ G1 b σ', Same G G1 → b ∈ bs → S G1 b σ' → TR tt σ' G1 (p b) ∧ (p b = true → PR te σ' G1 (f b))) (hlen : bs.length ≤ sizeLine) :
    PR (tLc wi g tt te vs) σ G (.list ((bs.filter p).map f)) := fun H Q hs k => by
  refine hw H _ hs fun J G1 H1 e1 dw D hD => ?_
  have hz : (bs.map enc).length = bs.length := List.length_map _
  refine lc_it dw.w (fun i H2 => ∃ (G2 : Hp) (acc : List V), Same G1 G2 ∧ (∀ a, G2 a ≠ none → G1 a ≠ none ∨ H1 a = none) ∧ G2 D = none ∧ Same H1 H2 ∧ Same G2 H2 ∧ H2 D = some (.lst acc) ∧ acc.length ≤ i ∧ DqAll G2 acc (((bs.take i).filter p).map f)) ?_ ?_ ?_ ?_
  · exact ⟨G1, [], Same.refl _, fun _ h => .inl h, e1.gh.free hD, same_new hD, e1.gh.trans (same_new hD), upd_same, Nat.le_refl _, .nil⟩
  · rintro i H2 _ ⟨G2, acc, a1, a2, a3, a4, a5, a6, _⟩
    exact a1.trans a5
  · rintro i x H2 H3 hi ⟨G2, acc, a1, a2, a3, a4, a5, a6, a7, a8⟩ ⟨d, b1, b2, b3⟩
    obtain ⟨G3, e3, dx⟩ := b3 G2 a1 a5
    rw [List.getElem?_map] at b1
    obtain ⟨b, c1, rfl⟩ : ∃ b, bs[i]? = some b ∧ enc b = d := by
      cases q : bs[i]? with
      | none => rw [q] at b1; simp at b1
      | some b => rw [q] at b1; exact ⟨b, rfl, Option.some.inj b1⟩
    have hib : i < bs.length := (List.getElem?_eq_some_iff.mp c1).1
    have mem : b ∈ bs := List.mem_of_getElem? c1
    have etake : bs.take (i + 1) = bs.take i ++ [b] := by rw [List.take_add_one, c1]; rfl
    have g3D : G3 D = none := by
      cases q : G3 D with
      | none => rfl
      | some o =>
        rcases e3.fr D (by simp [q]) with z | z
        · exact absurd a3 z
        · rw [a6] at z; cases z
    have fr3 : ∀ a, G3 a ≠ none → G1 a ≠ none ∨ H1 a = none := fun a h => (e3.fr a h).elim (a2 a) fun z => .inr (a4.free z)
    refine hg x b G3 H3 _ mem dx e3.gh fun σ' hσ hS => ⟨hσ, ?_⟩
    obtain ⟨ht, he⟩ := hstep G3 b σ' ((e1.gg.trans a1).trans e3.gg) mem hS
    refine ht H3 _ e3.gh fun H4 s4 => ?_
    have d4 : H4 D = some (.lst acc) := s4 _ _ (e3.hh _ _ a6)
    cases hp : p b with
    | false =>
      refine iteF ⟨G3, acc, a1.trans e3.gg, fr3, g3D, (a4.trans e3.hh).trans s4, e3.gh.trans s4, d4, by omega, ?_⟩
      have : (bs.take (i + 1)).filter p = (bs.take i).filter p := by rw [etake, List.filter_append]; simp [hp]
      rw [this]
      exact a8.up e3.gg
    | true =>
      refine iteT ((he hp) H4 _ (e3.gh.trans s4) fun v G5 H5 e5 dv => ⟨acc, e5.hh _ _ d4, by omega, ?_⟩)
      have g5D : G5 D = none := by
        cases q : G5 D with
        | none => rfl
        | some o =>
          rcases e5.fr D (by simp [q]) with z | z
          · exact absurd g3D z
          · rw [d4] at z; cases z
      have sH : Same H1 H5 := ((a4.trans e3.hh).trans s4).trans e5.hh
      refine ⟨G5, acc ++ [v], (a1.trans e3.gg).trans e5.gg, fun a h => (e5.fr a h).elim (fr3 a) fun z => .inr (((a4.trans e3.hh).trans s4).free z), g5D, same_off sH hD, same_off e5.gh g5D, upd_same, by simp; omega, ?_⟩
      have : ((bs.take (i + 1)).filter p).map f = ((bs.take i).filter p).map f ++ [f b] := by rw [etake, List.filter_append]; simp [hp]
      rw [this]
      exact (a8.up (e3.gg.trans e5.gg)).snoc dv
  · rintro H2 ⟨G2, acc, a1, a2, a3, a4, a5, a6, a7, a8⟩
    rw [hz, List.take_length] at a8
    have hGD : G2 D = none := a3
    refine k (.ref D) (upd G2 D (.lst acc)) H2 ⟨e1.hh.trans a4, fun b o q => ?_, fun b o q => ?_, fun b q => ?_⟩ (.lst upd_same (a8.up (same_new hGD)))
    · rw [upd_ne (ne_of_none (a1 _ _ (e1.gg _ _ q)) hGD)]
      exact a1 _ _ (e1.gg _ _ q)
    · by_cases hb : b = D
      · subst hb
        rw [upd_same] at q
        rw [a6]
        exact q
      · rw [upd_ne hb] at q
        exact a5 _ _ q
    · by_cases hb : b = D
      · subst hb
        exact .inr (e1.hh.free hD)
      · rw [upd_ne hb] at q
        rcases a2 b q with z | z
        · exact e1.fr b z
        · exact .inr (e1.hh.free z)
/-- one name -/
theorem PR_lc1 {i : Nat} (hw : WR wi σ G (bs.map enc)) (hset : ∀ v, wipe ((wipe σ vs).set i (some v)) vs = wipe σ vs)
    (hstep : ∀ G1 b v, Same G G1 → b ∈ bs → Dq G1 v (enc b) → TR tt ((wipe σ vs).set i (some v)) G1 (p b) ∧ (p b = true → PR te ((wipe σ vs).set i (some v)) G1 (f b))) (hlen : bs.length ≤ sizeLine) :
    PR (tLc wi (gName i) tt te vs) σ G (.list ((bs.filter p).map f)) :=
  PR_lc (S := fun G1 b σ' => ∃ v, Dq G1 v (enc b) ∧ σ' = (wipe σ vs).set i (some v)) hw (fun x b G1 H k _ dx _ h => h _ (hset x) ⟨x, dx, rfl⟩)
    (fun G1 b σ' hG hb ⟨v, dv, e⟩ => e ▸ hstep G1 b v hG hb dv) hlen
/-- two names -/
theorem PR_lc2 {i j : Nat} {e1 e2 : β → PyData} (he : ∀ b, b ∈ bs → enc b = .tuple [e1 b, e2 b]) (hw : WR wi σ G (bs.map enc)) (hset : ∀ v u, wipe (((wipe σ vs).set i (some v)).set j (some u)) vs = wipe σ vs)
    (hstep : ∀ G1 b v u, Same G G1 → b ∈ bs → Dq G1 v (e1 b) → Dq G1 u (e2 b) → TR tt (((wipe σ vs).set i (some v)).set j (some u)) G1 (p b) ∧ (p b = true → PR te (((wipe σ vs).set i (some v)).set j (some u)) G1 (f b))) (hlen : bs.length ≤ sizeLine) :
    PR (tLc wi (gTup K 2 (gCons (gName i) (gCons (gName j) gNil))) tt te vs) σ G (.list ((bs.filter p).map f)) :=
  PR_lc (S := fun G1 b σ' => ∃ v u, Dq G1 v (e1 b) ∧ Dq G1 u (e2 b) ∧ σ' = ((wipe σ vs).set i (some v)).set j (some u)) hw (fun x b G1 H k hb dx hs h => by
      rw [he b hb] at dx
      cases dx with
      | tup ha hall =>
        obtain ⟨v, u, rfl, hv, hu⟩ := hall.two
        exact ⟨_, _, rfl, SqT.of (hs _ _ ha), rfl, v, [u], rfl, u, [], rfl, rfl, h _ (hset v u) ⟨v, u, hv, hu, rfl⟩⟩)
    (fun G1 b σ' hG hb ⟨v, u, dv, du, e⟩ => e ▸ hstep G1 b v u hG hb dv du) hlen
variable {q : β → Bool}
/-- without a test -/
theorem PR_map1 {i : Nat} (hw : WR wi σ G (bs.map enc)) (hset : ∀ v, wipe ((wipe σ vs).set i (some v)) vs = wipe σ vs)
    (hstep : ∀ G1 b v, Same G G1 → b ∈ bs → Dq G1 v (enc b) → PR te ((wipe σ vs).set i (some v)) G1 (f b)) (hlen : bs.length ≤ sizeLine) :
    PR (tLc wi (gName i) tYes te vs) σ G (.list (bs.map f)) :=
  (PR_lc1 (p := fun _ => true) hw hset (fun G1 b v hG hb dv => ⟨TR_yes, fun _ => hstep G1 b v hG hb dv⟩) hlen).eq (by rw [List.filter_eq_self.mpr fun _ _ => rfl])
theorem PR_map2 {i j : Nat} {e1 e2 : β → PyData} (he : ∀ b, b ∈ bs → enc b = .tuple [e1 b, e2 b]) (hw : WR wi σ G (bs.map enc)) (hset : ∀ v u, wipe (((wipe σ vs).set i (some v)).set j (some u)) vs = wipe σ vs)
    (hstep : ∀ G1 b v u, Same G G1 → b ∈ bs → Dq G1 v (e1 b) → Dq G1 u (e2 b) → PR te (((wipe σ vs).set i (some v)).set j (some u)) G1 (f b)) (hlen : bs.length ≤ sizeLine) :
    PR (tLc wi (gTup K 2 (gCons (gName i) (gCons (gName j) gNil))) tYes te vs) σ G (.list (bs.map f)) :=
  (PR_lc2 (p := fun _ => true) he hw hset (fun G1 b v u hG hb dv du => ⟨TR_yes, fun _ => hstep G1 b v u hG hb dv du⟩) hlen).eq (by rw [List.filter_eq_self.mpr fun _ _ => rfl])
theorem all_map (bs : List β) (q : β → Bool) : (bs.map q).all id = bs.all q := by rw [List.all_map]; rfl
theorem any_map (bs : List β) (q : β → Bool) : (bs.map q).any id = bs.any q := by rw [List.any_map]; rfl
theorem PR_all {te : TE} (h : PR te σ G (.list (bs.map fun b => .bool (q b)))) : PR (tCB (rAll K) (tCons te tNil)) σ G (.bool (bs.all q)) := by
  have e : (bs.map fun b => PyData.bool (q b)) = (bs.map q).map PyData.bool := by rw [List.map_map]; rfl
  rw [e] at h
  rw [← all_map]
  exact PR_CB RR_all (PRA_one h)
theorem PR_any {te : TE} (h : PR te σ G (.list (bs.map fun b => .bool (q b)))) : PR (tCB (rAny K) (tCons te tNil)) σ G (.bool (bs.any q)) := by
  have e : (bs.map fun b => PyData.bool (q b)) = (bs.map q).map PyData.bool := by rw [List.map_map]; rfl
  rw [e] at h
  rw [← any_map]
  exact PR_CB RR_any (PRA_one h)
end
/-! ### how great data are -/
def Sh (n : Nat) (d : PyData) : Prop := d.canLay0 = true ∧ d.depth ≤ n
def ShL (n : Nat) (ds : List PyData) : Prop := ∀ d, d ∈ ds → Sh n d
theorem Sh.shaped {n : Nat} {d : PyData} (h : Sh n d) (hn : n ≤ 64) : SeqAt.shaped d = true := by
  show (d.canLay0 && decide (d.depth ≤ 64)) = true
  rw [h.1, Bool.true_and]
  exact decide_eq_true (Nat.le_trans h.2 hn)
theorem Sh.mono {n m : Nat} {d : PyData} (h : Sh n d) (hn : n ≤ m) : Sh m d := ⟨h.1, Nat.le_trans h.2 hn⟩
theorem ShL.mono {n m : Nat} {ds : List PyData} (h : ShL n ds) (hn : n ≤ m) : ShL m ds := fun d hd => (h d hd).mono hn
theorem ShL.lay {n : Nat} : ∀ {ds : List PyData}, ShL n ds → PyData.canLayAll0 ds = true ∧ PyData.depthAll ds ≤ n
  | [], _ => ⟨rfl, by simp [PyData.depthAll]⟩
  | d :: ds, h => by
    obtain ⟨h1, h2⟩ := h d (List.mem_cons_self ..)
    obtain ⟨h3, h4⟩ := ShL.lay (ds := ds) fun e m => h e (List.mem_cons_of_mem _ m)
    simp only [PyData.canLayAll0, PyData.depthAll, h1, h3, Bool.true_and, true_and]
    omega
theorem ShL.list {n : Nat} {ds : List PyData} (h : ShL n ds) : Sh (n + 1) (.list ds) := ⟨by simp only [PyData.canLay0]; exact h.lay.1, by simp only [PyData.depth]; have := h.lay.2; omega⟩
theorem ShL.tuple {n : Nat} {ds : List PyData} (h : ShL n ds) : Sh (n + 1) (.tuple ds) := ⟨by simp only [PyData.canLay0]; exact h.lay.1, by simp only [PyData.depth]; have := h.lay.2; omega⟩
theorem Sh.noDict {n : Nat} {d : PyData} (h : Sh n d) : PD.noDict d = true := noDict_of_lay d h.1
end PD
set_option Elab.async false
set_option linter.all false
set_option maxRecDepth 100000
set_option maxHeartbeats 4000000
/-! PdFn: defs by their promises; what isinstance tells -/
namespace PD
open PySem PySem.Spec PyProof.Rows L2
/-- a def of the top, as one calls it: its promise sp -/
structure Fn (P : Program) (w : World) (K : PySem.W.Frag) (mg : Str → Option Value) (base : Heap) (CX : CXT) (x : Str) (k : Nat) (n : Nat) (sp : Sp) : Prop where
  ex : ∃ (f : Addr) (fd : FuncData) (ps : List Str), mg x = some (.ref f) ∧ PySem.W.keepIn K (.ref f) = true ∧ ps.length = n ∧ Binds K fd ps [] ∧ FnOk P w K mg base CX k f fd ps sp
/-- a def of the top, as the text has it -/
structure Df (K : PySem.W.Frag) (mg : Str → Option Value) (x : Str) (st : Stmt) : Prop where
  ex : ∃ (f : Addr) (fd : FuncData), mg x = some (.ref f) ∧ Fun K x x st f fd
section
variable {P : Program} {w : World} {K : PySem.W.Frag} {mg : Str → Option Value} {base : Heap} {X : Cx} {CX : CXT} {x : Str} {k n : Nat} {sp : Sp} {E : XK} {e : Expr} {es : List Expr} {t : TA} {p pos : Pos} {st : Stmt}
theorem pe_fn (F : Fn X.prog X.w X.K X.mg X.base CX x k n sp) (hr : Room k X.A) (hg : Gl X x) (hx : Passes CX X E) (ha : PA X (e :: es) t) (hdb : (x == ("__debug__" : Str)) = false := by decide)
    (he : starEach (e :: es) X.env = (false, eval e X.env) :: starEach es X.env := by rfl) (hpl : (backTo pos (starEach es X.env)).any (·.1) = false := by rfl) : PE X (.Call (.Name x p) (e :: es) [] pos) (tCall sp [] E t) := by
  obtain ⟨f, fd, ps, h1, h2, _, h3, h4⟩ := F.ex
  exact pe_call h4 hr hg h1 h2 h3 .nil hx ha hdb he hpl
theorem Df.fn {N ps : List Str} (D : Df K mg x st) (S : FnScope N ps (defScope st)) (len : ∀ vs H Q E, sp vs H Q E → vs.length = ps.length) (hn : ps.length = n)
    (hb : ∀ (kV doc pm : Value) (an : Option Addr) (cdv ct : Value) (us : List Value), us.length = ps.length → bindArgs (PySem.W.fnOf x x (defArgs st) (defBody st) (defScope st) .none kV doc pm an cdv ct) ⟨us, []⟩ = pure (ps.zip us))
    (hbody : ∀ (f : Addr) (cdv : Value) (A : Around) (outer : List Env) (s : Shared) (H : Hp) (vs : List V) (Q : VK) (E : XK), Room k (A.deeper (envOfC x (defScope st) s.heap.objs.size f cdv)) → sp vs H Q E →
      ∃ t, PSs (cxOf CX0 P w K mg base N x (defScope st) f cdv A outer s H E).nox (defBody st) t ∧ t { nx := fun _ H' => Q .non H', rt := Q } (start N vs) H) : Fn P w K mg base CX0 x (k + 1) n sp := by
  obtain ⟨f, fd, h1, h2⟩ := D.ex
  exact ⟨f, fd, ps, h1, h2.kp, hn, h2.binds hb, h2.ok S len (hbody f)⟩
/-- a pure def by its body -/
theorem Df.pure {N ps : List Str} {DD : List PyData → PyData → Prop} (D : Df K mg x st) (S : FnScope N ps (defScope st)) (len : ∀ ds d, DD ds d → ds.length = ps.length) (hn : ps.length = n)
    (hb : ∀ (kV doc pm : Value) (an : Option Addr) (cdv ct : Value) (us : List Value), us.length = ps.length → bindArgs (PySem.W.fnOf x x (defArgs st) (defBody st) (defScope st) .none kV doc pm an cdv ct) ⟨us, []⟩ = pure (ps.zip us))
    (hbody : ∀ (f : Addr) (cdv : Value) (A : Around) (outer : List Env) (s : Shared) (H : Hp) (E : XK) (G : Hp) (vs : List V) (ds : List PyData) (d : PyData) (Q : VK), Room k (A.deeper (envOfC x (defScope st) s.heap.objs.size f cdv)) → Same G H → DqAll G vs ds → DD ds d →
      (∀ v G' H', Ext G H G' H' → Dq G' v d → Q v H') →
      ∃ t, PSs (cxOf CX0 P w K mg base N x (defScope st) f cdv A outer s H E).nox (defBody st) t ∧ t { nx := fun _ H' => Q .non H', rt := Q } (start N vs) H) : Fn P w K mg base CX0 x (k + 1) n (spP DD) :=
  D.fn S (fun vs H Q E ⟨G, ds, d, _, h1, h2, _⟩ => h1.len.trans (len ds d h2)) hn hb fun f cdv A outer s H vs Q E hr ⟨G, ds, d, h1, h2, h3, h4⟩ => hbody f cdv A outer s H E G vs ds d Q hr h1 h2 h3 h4
end
end PD


namespace PD
open PySem PySem.Spec PyProof.Rows L2
def isL : PyData → Bool
  | .list _ => true
  | _ => false
def isT : PyData → Bool
  | .tuple _ => true
  | _ => false
def isS : PyData → Bool
  | .str _ => true
  | _ => false
def isB : PyData → Bool
  | .bool _ => true
  | _ => false
def isD : PyData → Bool
  | .dict _ => true
  | _ => false
def isI : PyData → Bool
  | .int _ => true
  | .bool _ => true
  | _ => false
theorem _root_.L2.Room.u65 {k : Nat} {A : Around} (r : Room k A) : A.units + 65 < cLine := by have := r.un; omega
theorem kitL (d : PyData) : kitB (tyOf d) "list" = some (isL d) := by cases d <;> (simp only [tyOf, isL]; decide +kernel)
theorem kitT (d : PyData) : kitB (tyOf d) "tuple" = some (isT d) := by cases d <;> (simp only [tyOf, isT]; decide +kernel)
theorem kitS (d : PyData) : kitB (tyOf d) "str" = some (isS d) := by cases d <;> (simp only [tyOf, isS]; decide +kernel)
theorem kitBo (d : PyData) : kitB (tyOf d) "bool" = some (isB d) := by cases d <;> (simp only [tyOf, isB]; decide +kernel)
theorem kitD (d : PyData) : kitB (tyOf d) "dict" = some (isD d) := by cases d <;> (simp only [tyOf, isD]; decide +kernel)
theorem kitI (d : PyData) : kitB (tyOf d) "int" = some (isI d) := by cases d <;> (simp only [tyOf, isI]; decide +kernel)
end PD
set_option Elab.async false
set_option linter.all false
set_option maxRecDepth 100000
set_option maxHeartbeats 4000000
/-! PdX: the layer's terms in short, the written part K named -/
namespace PD
open PySem PySem.Spec PyProof.Rows L2 StX RZ
section
variable {X : Cx} {K : PySem.W.Frag} {a b e : Expr} {ta tb te : TE} {p q pos p2 p3 p4 : Pos} {es : List Expr} {t : TA}
theorem xe_in (hu : X.A.units + 65 < cLine) (ha : PE X a ta) (hb : PE X b tb) (hK : X.K = K := by rfl) (hm : behindInMarks .In b = false := by rfl) : PE X (.Compare a [.In] [b] pos) (tOp (rInD K) ta tb) := hK ▸ pe_cmpR (op_inD hu) ha hb hm
theorem xt_in (hu : X.A.units + 65 < cLine) (ha : PE X a ta) (hb : PE X b tb) (hK : X.K = K := by rfl) (hm : behindInMarks .In b = false := by rfl) : PT X (.Compare a [.In] [b] pos) (tTest (tOp (rInD K) ta tb)) := hK ▸ pt_cmpR (op_inD hu) ha hb hm
theorem xe_notin (hu : X.A.units + 65 < cLine) (ha : PE X a ta) (hb : PE X b tb) (hK : X.K = K := by rfl) (hm : behindInMarks .NotIn b = false := by rfl) : PE X (.Compare a [.NotIn] [b] pos) (tOp (rNotInD K) ta tb) := hK ▸ pe_cmpR (op_notInD hu) ha hb hm
theorem xt_notin (hu : X.A.units + 65 < cLine) (ha : PE X a ta) (hb : PE X b tb) (hK : X.K = K := by rfl) (hm : behindInMarks .NotIn b = false := by rfl) : PT X (.Compare a [.NotIn] [b] pos) (tTest (tOp (rNotInD K) ta tb)) := hK ▸ pt_cmpR (op_notInD hu) ha hb hm
theorem xe_eq (hu : X.A.units + 65 < cLine) (ha : PE X a ta) (hb : PE X b tb) (hK : X.K = K := by rfl) : PE X (.Compare a [.Eq] [b] pos) (tOp (rEqD K) ta tb) := hK ▸ pe_cmpR (op_eqD (by omega)) ha hb (nomark _)
theorem xt_eq (hu : X.A.units + 65 < cLine) (ha : PE X a ta) (hb : PE X b tb) (hK : X.K = K := by rfl) : PT X (.Compare a [.Eq] [b] pos) (tTest (tOp (rEqD K) ta tb)) := hK ▸ pt_cmpR (op_eqD (by omega)) ha hb (nomark _)
theorem xe_ne (hu : X.A.units + 65 < cLine) (ha : PE X a ta) (hb : PE X b tb) (hK : X.K = K := by rfl) : PE X (.Compare a [.NotEq] [b] pos) (tOp (rNeD K) ta tb) := hK ▸ pe_cmpR (op_neD (by omega)) ha hb (nomark _)
theorem xt_ne (hu : X.A.units + 65 < cLine) (ha : PE X a ta) (hb : PE X b tb) (hK : X.K = K := by rfl) : PT X (.Compare a [.NotEq] [b] pos) (tTest (tOp (rNeD K) ta tb)) := hK ▸ pt_cmpR (op_neD (by omega)) ha hb (nomark _)
theorem xe_slTo (ha : PE X a ta) (hb : PE X b tb) (hK : X.K = K := by rfl) : PE X (.Subscript a (.Slice none (some b) none p2) pos) (tSl (rSlL K) ta tNoPart (tPart tb)) := hK ▸ pe_slice sl_list ha po_none (po_some hb)
theorem xe_ixL (ha : PE X a ta) (hb : PE X b tb) (hs : PlainIx b := by exact fun _ _ => rfl) (hK : X.K = K := by rfl) : PE X (.Subscript a b pos) (tOp (rIxL K) ta tb) := hK ▸ pe_ix ix_list ha hb hs
theorem xe_ixT (ha : PE X a ta) (hb : PE X b tb) (hs : PlainIx b := by exact fun _ _ => rfl) (hK : X.K = K := by rfl) : PE X (.Subscript a b pos) (tOp (rIxT K) ta tb) := hK ▸ pe_ix ix_tup ha hb hs
theorem xe_all (m : X.mg "all" = none) (ha : PE X e te) (hg : Gl X "all" := by rfl) (hc : X.calm = true := by rfl) (hK : X.K = K := by rfl) (hs : starEach [e] X.env = (false, eval e X.env) :: starEach [] X.env := by rfl) : PE X (.Call (.Name "all" p) [e] [] pos) (tCB (rAll K) (tCons te tNil)) :=
  hK ▸ pe_callB (cr_all hc) hg m (by decide +kernel) (pa_cons ha pa_nil hs) (he := hs)
theorem xe_any (m : X.mg "any" = none) (ha : PE X e te) (hg : Gl X "any" := by rfl) (hc : X.calm = true := by rfl) (hK : X.K = K := by rfl) (hs : starEach [e] X.env = (false, eval e X.env) :: starEach [] X.env := by rfl) : PE X (.Call (.Name "any" p) [e] [] pos) (tCB (rAny K) (tCons te tNil)) :=
  hK ▸ pe_callB (cr_any hc) hg m (by decide +kernel) (pa_cons ha pa_nil hs) (he := hs)
abbrev rLenQ (K : PySem.W.Frag) : List V → Hp → VK → Prop := fun xs H Q => ∃ p ys, xs = [.ref p] ∧ (SqL K H p ys ∨ SqT K H p ys) ∧ Q (.int ys.length) H
abbrev rListQ (K : PySem.W.Frag) : List V → Hp → VK → Prop := fun xs H Q => ∃ p ys, xs = [.ref p] ∧ (SqL K H p ys ∨ SqT K H p ys) ∧ ∀ l, H l = none → Q (.ref l) (upd H l (.lst ys))
abbrev rTupleQ (K : PySem.W.Frag) : List V → Hp → VK → Prop := fun xs H Q => ∃ p ys, xs = [.ref p] ∧ ((SqL K H p ys ∧ ∀ l, H l = none → Q (.ref l) (upd H l (.tup ys))) ∨ (SqT K H p ys ∧ Q (.ref p) H))
theorem xi_list {tg : Expr} (hl : PE X e te) (hK : X.K = K := by rfl) : PI X tg e (iList K te) := hK ▸ pi_list hl
theorem xi_tup {tg : Expr} (hl : PE X e te) (hK : X.K = K := by rfl) : PI X tg e (iTup K te) := hK ▸ pi_tup hl
theorem xi_seq {tg : Expr} (hl : PE X e te) (hK : X.K = K := by rfl) : PI X tg e (iSeq K te) := hK ▸ pi_seq hl
theorem xa_star (he : PE X e te) (hr : PA X es t) (hK : X.K = K := by rfl) (hs : starEach (.Starred e p :: es) X.env = (true, eval e X.env) :: starEach es X.env := by rfl) : PA X (.Starred e p :: es) (tStar K te t) := hK ▸ pa_star he hr hs
theorem xe_len (m : X.mg "len" = none) (ha : PE X e te) (hg : Gl X "len" := by rfl) (hK : X.K = K := by rfl) (hs : starEach [e] X.env = (false, eval e X.env) :: starEach [] X.env := by rfl) : PE X (.Call (.Name "len" p) [e] [] pos) (tCB (rLenQ K) (tCons te tNil)) :=
  hK ▸ pe_callB call_len_seq hg m (by decide +kernel) (pa_cons ha pa_nil hs) (he := hs)
theorem xe_list (m : X.mg "list" = none) (ha : PE X e te) (hg : Gl X "list" := by rfl) (hK : X.K = K := by rfl) (hs : starEach [e] X.env = (false, eval e X.env) :: starEach [] X.env := by rfl) : PE X (.Call (.Name "list" p) [e] [] pos) (tCB (rListQ K) (tCons te tNil)) :=
  hK ▸ pe_callTy call_list_of hg m (by decide +kernel) (pa_cons ha pa_nil hs) (he := hs)
theorem xe_tuple (m : X.mg "tuple" = none) (ha : PE X e te) (hg : Gl X "tuple" := by rfl) (hK : X.K = K := by rfl) (hs : starEach [e] X.env = (false, eval e X.env) :: starEach [] X.env := by rfl) : PE X (.Call (.Name "tuple" p) [e] [] pos) (tCB (rTupleQ K) (tCons te tNil)) :=
  hK ▸ pe_callTy call_tuple_of hg m (by decide +kernel) (pa_cons ha pa_nil hs) (he := hs)
theorem xe_sorted (m : X.mg "sorted" = none) (hu : X.A.units + 65 < cLine) (ha : PE X e te) (hg : Gl X "sorted" := by rfl) (hK : X.K = K := by rfl) (hs : starEach [e] X.env = (false, eval e X.env) :: starEach [] X.env := by rfl) : PE X (.Call (.Name "sorted" p) [e] [] pos) (tCB (rSortedD K) (tCons te tNil)) :=
  hK ▸ pe_callB (cr_sortedD (by omega)) hg m (by decide +kernel) (pa_cons ha pa_nil hs) (he := hs)
theorem xe_isi {T : Str} {U : String} (m : X.mg "isinstance" = none) (mT : X.mg T = none) (hv : bootBuiltins T = some (.type U)) (ha : PE X e te) (hg : Gl X "isinstance" := by rfl) (hT : Gl X T := by rfl) (hK : X.K = K := by rfl) (hn : T ≠ "__name__" := by decide) (hd : (T == ("__debug__" : Str)) = false := by decide)
    (hs : starEach [e, .Name T q] X.env = (false, eval e X.env) :: starEach [.Name T q] X.env := by rfl) (hs2 : starEach [.Name T q] X.env = (false, eval (.Name T q) X.env) :: starEach [] X.env := by rfl)
    (hpl : (backTo pos (starEach [.Name T q] X.env)).any (·.1) = false := by rfl) :
    PE X (.Call (.Name "isinstance" p) [e, .Name T q] [] pos) (tCB (rIsi K) (tCons te (tCons (tC (.ty U)) tNil))) :=
  hK ▸ pe_callB (call_isi (X := X)) hg m (by decide +kernel) (pa_cons ha (pa_cons (pe_bltn (v := .ty U) hT mT hv rfl hn hd) pa_nil hs2) hs) (he := hs) (hpl := hpl)
theorem xe_isi2 {T T' : Str} {U U' : String} {k : Nat} (m : X.mg "isinstance" = none) (mT : X.mg T = none) (mT' : X.mg T' = none) (hv : bootBuiltins T = some (.type U)) (hv' : bootBuiltins T' = some (.type U')) (ha : PE X e te) (hg : Gl X "isinstance" := by rfl) (hT : Gl X T := by rfl) (hT' : Gl X T' := by rfl)
    (hK : X.K = K := by rfl) (hn : T ≠ "__name__" := by decide) (hd : (T == ("__debug__" : Str)) = false := by decide) (hn' : T' ≠ "__name__" := by decide) (hd' : (T' == ("__debug__" : Str)) = false := by decide)
    (hs : starEach [e, .Tuple [.Name T p2, .Name T' p3] k p4] X.env = (false, eval e X.env) :: starEach [.Tuple [.Name T p2, .Name T' p3] k p4] X.env := by rfl)
    (hs2 : starEach [.Tuple [.Name T p2, .Name T' p3] k p4] X.env = (false, eval (.Tuple [.Name T p2, .Name T' p3] k p4) X.env) :: starEach [] X.env := by rfl)
    (hs3 : starEach [.Name T p2, .Name T' p3] X.env = (false, eval (.Name T p2) X.env) :: starEach [.Name T' p3] X.env := by rfl) (hs4 : starEach [.Name T' p3] X.env = (false, eval (.Name T' p3) X.env) :: starEach [] X.env := by rfl)
    (hpl : (backTo pos (starEach [.Tuple [.Name T p2, .Name T' p3] k p4] X.env)).any (·.1) = false := by rfl) :
    PE X (.Call (.Name "isinstance" p) [e, .Tuple [.Name T p2, .Name T' p3] k p4] [] pos) (tCB (rIsiT K) (tCons te (tCons (tTup (tCons (tC (.ty U)) (tCons (tC (.ty U')) tNil))) tNil))) :=
  hK ▸ pe_callB (call_isiT (X := X)) hg m (by decide +kernel) (pa_cons ha (pa_cons (pe_tup (pa_cons (pe_bltn (v := .ty U) hT mT hv rfl hn hd) (pa_cons (pe_bltn (v := .ty U') hT' mT' hv' rfl hn' hd') pa_nil hs4) hs3)) pa_nil hs2) hs) (he := hs) (hpl := hpl)
end
section
variable {X : Cx} {K : PySem.W.Frag} {elt iter : Expr} {ifs : List Expr} {scope sc : Scope} {N : List Str} {i j : Nat} {x y : Str} {pos p1 p2 p3 : Pos} {k : Nat} {wi : TI} {tt : TT} {te : TE}
/-- [elt for x in iter ..] -/
theorem xe_lc1 (N : List Str) (sc : Scope) (i : Nat) (hi : PI X (.Name x p1) iter wi) (ok : blkC N sc scope [(x, i)] = true) (nd : N.Nodup)
    (hx : scope.names.lookup x = some .cell ∨ scope.names.lookup x = some .local) (ht : ∀ (s : Shared) (H : Hp) (C : Addr) (cl : List (Str × Addr)) (fp : List Addr), PTs (X.blk s H scope (compEnvC scope cl C X.env) fp) ifs tt)
    (he : ∀ (s : Shared) (H : Hp) (C : Addr) (cl : List (Str × Addr)) (fp : List Addr), PE (X.blk s H scope (compEnvC scope cl C X.env) fp) elt te) (hc : X.calm = true := by rfl) (hN : X.N = N := by rfl) (hS : X.env.scope = sc := by rfl)
    (hs : ∀ z, foldedSetIterable iter X.env z = pure z := by intro _; rfl) : PE X (.ListComp elt [⟨.Name x p1, iter, ifs, 0⟩] scope pos) (tLc wi (gName i) tt te [i]) := by
  have ok' := blkOk_by ok
  subst hN hS
  refine pe_lc (own := [(x, i)]) hc nd hi ok' (fun s H C cl fp => ?_) ht he hs
  rcases hx with h | h
  · have h2 : (X.blk s H scope (compEnvC scope cl C X.env) fp).env.scope.names.lookup x = some .cell := lookup_relS_keep (sc := X.env.scope) (by decide) h
    exact pg_name nd (ok'.ix (x, i) (List.mem_cons_self ..)) (.inr h2) (.inl (show (scope.names.lookup x == some .cell) = true by rw [h]; exact beq_self_eq_true _))
  · have h2 : (X.blk s H scope (compEnvC scope cl C X.env) fp).env.scope.names.lookup x = some .local := lookup_relS_keep (sc := X.env.scope) (by decide) h
    exact pg_name nd (ok'.ix (x, i) (List.mem_cons_self ..)) (.inl h2) (.inr h2)
/-- y = [elt for x in iter ..] -/
theorem xs_setLc1 {spos : Pos} (N : List Str) (sc : Scope) (j i : Nat) (hi : PI X (.Name x p1) iter wi) (ok : blkC N sc scope [(x, i)] = true) (nd : N.Nodup)
    (hx : scope.names.lookup x = some .cell ∨ scope.names.lookup x = some .local) (ht : ∀ (s : Shared) (H : Hp) (C : Addr) (cl : List (Str × Addr)) (fp : List Addr), PTs (X.blk s H scope (compEnvC scope cl C X.env) fp) ifs tt)
    (he : ∀ (s : Shared) (H : Hp) (C : Addr) (cl : List (Str × Addr)) (fp : List Addr), PE (X.blk s H scope (compEnvC scope cl C X.env) fp) elt te) (hy : N[j]? = some y) (hyl : sc.names.lookup y = some .local) (hl : (p2.line == pos.line) = true)
    (ha : (scope.names.any fun (n, k) => n == y && (k == .local || k == .cell)) = false) (hc : X.calm = true := by rfl) (hN : X.N = N := by rfl) (hS : X.env.scope = sc := by rfl) (hk : sc.kind = .function := by rfl)
    (hs : ∀ z, foldedSetIterable iter X.env z = pure z := by intro _; rfl) : PS X (.Assign [.Name y p2] (.ListComp elt [⟨.Name x p1, iter, ifs, 0⟩] scope pos) spos) (tAsg (tLc wi (gName i) tt te [i]) (gName j)) := by
  have ok' := blkOk_by ok
  subst hN hS
  refine ps_setLc (own := [(x, i)]) hc nd hy hyl (sw_true hk hyl hl ha) hi ok' (fun s H C cl fp => ?_) ht he hs
  rcases hx with h | h
  · have h2 : (X.blk s H scope (compEnvC scope cl C X.env) fp).env.scope.names.lookup x = some .cell := lookup_relS_keep (sc := X.env.scope) (by decide) h
    exact pg_name nd (ok'.ix (x, i) (List.mem_cons_self ..)) (.inr h2) (.inl (show (scope.names.lookup x == some .cell) = true by rw [h]; exact beq_self_eq_true _))
  · have h2 : (X.blk s H scope (compEnvC scope cl C X.env) fp).env.scope.names.lookup x = some .local := lookup_relS_keep (sc := X.env.scope) (by decide) h
    exact pg_name nd (ok'.ix (x, i) (List.mem_cons_self ..)) (.inl h2) (.inr h2)
end
/-! ### places in a text -/
def stAt (b : List Stmt) (i : Nat) : Stmt := b.getD i (.Pass ⟨0, 0, 0, 0⟩)
def noExpr : Expr := .Constant .none 0 ⟨0, 0, 0, 0⟩
/-- the value of an assignment, a return; what a for walks; the arguments of a call, the items of a list .. -/
def valOf : Stmt → Expr
  | .Assign _ e _ => e
  | .Return (some e) _ => e
  | .For _ e _ _ _ => e
  | .Expr e _ => e
  | .If e _ _ _ => e
  | _ => noExpr
def subE : Nat → Expr → Expr
  | i, .Call f as _ _ => (f :: as).getD i noExpr
  | i, .List es _ => es.getD i noExpr
  | i, .Tuple es _ _ => es.getD i noExpr
  | i, .IfExp a b c _ => [a, b, c].getD i noExpr
  | i, .BoolOp _ es _ => es.getD i noExpr
  | _, .UnaryOp _ e _ => e
  | i, .BinOp a _ b _ => [a, b].getD i noExpr
  | i, .Compare a _ bs _ => (a :: bs).getD i noExpr
  | 0, .ListComp e _ _ _ => e
  | i, .ListComp _ gs _ _ => (gs.map fun g => g.iter).getD (i - 1) noExpr
  | _, _ => noExpr
def compSc : Expr → Scope
  | .ListComp _ _ sc _ => sc
  | .Lambda _ _ sc _ => sc
  | _ => { kind := .function, names := [], isGenerator := false, isCoroutine := false }
def bodyOf : Stmt → List Stmt
  | .For _ _ b _ _ => b
  | .While _ b _ _ => b
  | .If _ b _ _ => b
  | _ => []
end PD
set_option Elab.async false
set_option linter.all false
set_option maxRecDepth 100000
set_option maxHeartbeats 4000000
/-! PdKey: sorted(xs, key=len) of lists -/
namespace PD
open PySem PySem.Spec PyProof.Rows L2
def sortLen {α : Type} (ls : List (List α)) : List (List α) := ls.mergeSort fun a b => decide (a.length ≤ b.length)
/-- the items of a list of lists -/
inductive Lsts (H : Hp) : List V → List (List V) → Prop
  | nil : Lsts H [] []
  | cons {b : Addr} {ys : List V} {vs : List V} {yss : List (List V)} : H b = some (.lst ys) → Lsts H vs yss → Lsts H (.ref b :: vs) (ys :: yss)
theorem Lsts.len {H : Hp} : ∀ {vs : List V} {yss : List (List V)}, Lsts H vs yss → vs.length = yss.length
  | _, _, .nil => rfl
  | _, _, .cons _ t => by simp [Lsts.len t]
theorem Lsts.each {H : Hp} : ∀ {vs : List V} {yss : List (List V)} {us : List Value}, Lsts H vs yss → Vals vs us →
    PySem.W.EachIs (fun u (b : V × List V) => RelV b.1 u ∧ ∃ c, b.1 = .ref c ∧ H c = some (.lst b.2)) us (vs.zip yss)
  | _, _, _, .nil, .nil => .nil
  | _, _, _, .cons h t, .cons r q => .cons ⟨r, _, rfl, h⟩ (Lsts.each t q)
def rSortLen (K : PySem.W.Frag) : List V → Hp → VK → Prop := fun vs H Q => ∃ (a : Addr) (xs : List V) (yss : List (List V)), vs = [.ref a] ∧ SqL K H a xs ∧ Lsts H xs yss ∧
  ∀ p, H p = none → Q (.ref p) (upd H p (.lst (((xs.zip yss).mergeSort fun b c => decide ((b.2.length : Int) ≤ c.2.length)).map (·.1))))
section
variable {X : Cx} {e : Expr} {te : TE} {p q pos kp : Pos} {K : PySem.W.Frag}
theorem len_run {pins : List (Addr × Obj)} {s : Shared} {σ : L2.St} {H : Hp} {a : Addr} {xs : List V} {yss : List (List V)} {Q : VK} (hu : X.A.units + 64 < cLine) (I : Inv X pins σ H s) (hs : SqL X.K H a xs) (hl : Lsts H xs yss)
    (h : ∀ p, H p = none → Q (.ref p) (upd H p (.lst (((xs.zip yss).mergeSort fun b c => decide ((b.2.length : Int) ≤ c.2.length)).map (·.1))))) :
    wpAny (model X.prog X.w) X.A (call (.builtin "sorted") [.ref a] [(Str.ofString "key", .builtin "len")]) (EP X pins σ Q) X.xe s := by
  obtain ⟨its, rv, pl, hz⟩ := I.list hs
  have e := hl.each rv
  have hlen := hl.len
  have hzz : (xs.zip yss).length = xs.length := by rw [List.length_zip]; omega
  refine PySem.W.sorted_key_data (b := false) (fun b : V × List V => .int (b.2.length : Nat)) pl.isList e (PySem.W.AllAlike.of fun _ _ => by simp [PySem.W.alike]) (PySem.W.Sortable.others fun _ => ⟨by simp, fun _ => by simp⟩) (by rw [hzz]; exact hz) (fun b _ => ?_)
    (ksk_s1 _ _) (fun _ => ksk_l1 _ _) (fun _ => ksk_t4 _ _) (fun u b hb _ g tk kpt => ?_) fun out c h' tk kpt hf hD hol eo => ?_
  · show X.A.units + 2 + (PyData.int (b.2.length : Nat)).depth < cLine
    simp only [PyData.depth]
    omega
  · obtain ⟨r, c, ec, hc⟩ := hb
    obtain ⟨v, ys⟩ := b
    simp only at r ec hc
    subst ec
    cases r
    have I1 : Inv X pins σ H { s with heap := g, toks := tk } := I.kept kpt
    obtain ⟨its2, rv2, pl2, hz2⟩ := I1.list (SqL.of hc)
    have hn := line63
    have h2 := rv2.length
    refine Calls.call_len_list pl2.isList (by simp only [List.size_toArray] <;> omega) ⟨g, _, rfl, fun _ _ z => z, ?_⟩
    rw [List.size_toArray, ← h2]
    exact Reads.int _ _
  · rw [PySem.W.dataLe_int (β := V × List V) fun b => ((b.2.length : Nat) : Int)] at eo
    have hv := each_vals (fun u b (h : RelV b.1 u ∧ ∃ c, b.1 = .ref c ∧ H c = some (.lst b.2)) => h.1) eo
    refine ⟨.ref _, _, I.laid (t' := tk) (o := .lst _) kpt (Nat.le_succ _) ⟨?_, out, c, hv, hD⟩, rfl, h _ (I.hok.fresh (Nat.le_succ _))⟩
    rw [List.length_map, (List.mergeSort_perm _ _).length_eq, hzz]
    exact hz
/-- sorted(e, key=len) -/
theorem xe_sortedLen (m : X.mg "sorted" = none) (m2 : X.mg "len" = none) (hu : X.A.units + 65 < cLine) (ha : PE X e te) (hg : Gl X "sorted" := by rfl) (hg2 : Gl X "len" := by rfl) (hK : X.K = K := by rfl) (hs : starEach [e] X.env = (false, eval e X.env) :: starEach [] X.env := by rfl)
    (he : backTo pos (starEach [e] X.env) = (false, eval e X.env) :: backTo pos (starEach [] X.env) := by rfl) (hpl : (backTo pos (starEach [e] X.env)).any (·.1) = false := by rfl) :
    PE X (.Call (.Name "sorted" p) [e] [⟨some "key", .Name "len" q, kp⟩] pos) (tCB (rSortLen K) (tCons te tNil)) := by
  subst hK
  refine ⟨fun pins s σ H Q I h => ?_⟩
  refine wpAny_Call_Name_kw (ld_blt I hg m (u := .builtin "sorted") (by decide +kernel) (PyProof.Rows.callWith_kw (thn ((pa_cons ha pa_nil hs).run pos pins s σ H _ I h) fun us s1 ⟨vs, H1, I1, r1, q1⟩ => ?_) he hpl rfl rfl))
  show wpAny _ _ (evalAll [do let v ← eval (.Name "len" q) X.env; standAt pos; pure v]) _ _ s1
  refine wpAny_evalAll_cons (wpAny_bind (ld_blt I1 hg2 m2 (u := .builtin "len") (by decide +kernel) (wpAny_bind (wpAny_standAt (wpAny_pure (wpAny_evalAll_nil ?_))))))
  obtain ⟨a, xs, yss, rfl, hsq, hl, k⟩ := q1
  obtain rfl := Vals.ref1 r1
  exact len_run (by omega) I1 hsq hl k
end
/-! ### as data -/
theorem dqAll_lsts {G H : Hp} (hs : Same G H) : ∀ {vs : List V} {ls : List (List PyData)}, DqAll G vs (ls.map PyData.list) → ∃ yss, Lsts H vs yss ∧ yss.map List.length = ls.map List.length ∧ ∀ b, b ∈ vs.zip ls → Dq G b.1 (.list b.2)
  | _, [], h => by cases h; exact ⟨[], .nil, rfl, by simp⟩
  | _, l :: ls, h => by
    rw [List.map_cons] at h
    cases h with
    | cons h1 h2 =>
      obtain ⟨yss, a, b, c⟩ := dqAll_lsts hs h2
      cases h1 with
      | lst ha hall =>
        refine ⟨_ :: yss, .cons (hs _ _ ha) a, by simp [b, hall.len], fun x hx => ?_⟩
        rw [List.zip_cons_cons] at hx
        rcases List.mem_cons.mp hx with rfl | hx
        · exact .lst ha hall
        · exact c x hx
theorem zip_map_right' {α β γ : Type} (f : β → γ) : ∀ (xs : List α) (ys : List β), xs.zip (ys.map f) = (xs.zip ys).map fun b => (b.1, f b.2)
  | [], _ => by simp
  | _ :: _, [] => by simp
  | x :: xs, y :: ys => by simp [zip_map_right' f xs ys]
/-- sorting by the lengths alone -/
theorem sort_by_len {α β γ : Type} {xs : List α} {ys : List (List β)} {zs : List (List γ)} (h : ys.map List.length = zs.map List.length) :
    ((xs.zip ys).mergeSort fun b c => decide ((b.2.length : Int) ≤ c.2.length)).map (·.1) = ((xs.zip zs).mergeSort fun b c => decide (b.2.length ≤ c.2.length)).map (·.1) := by
  have e1 := List.map_mergeSort (r := fun (b c : α × List β) => decide ((b.2.length : Int) ≤ c.2.length)) (s := fun (b c : α × Nat) => decide (b.2 ≤ c.2)) (f := fun b => (b.1, b.2.length)) (l := xs.zip ys) (fun a _ b _ => by simp)
  have e2 := List.map_mergeSort (r := fun (b c : α × List γ) => decide (b.2.length ≤ c.2.length)) (s := fun (b c : α × Nat) => decide (b.2 ≤ c.2)) (f := fun b => (b.1, b.2.length)) (l := xs.zip zs) (fun a _ b _ => by simp)
  rw [← zip_map_right' List.length, h, zip_map_right'] at e1
  have e3 := e1.trans e2.symm
  have e4 := congrArg (List.map Prod.fst) e3
  rw [List.map_map, List.map_map] at e4
  exact e4
theorem RR_sortLen {K : PySem.W.Frag} {ls : List (List PyData)} : RR (rSortLen K) [.list (ls.map .list)] (.list ((sortLen ls).map .list)) := fun vs G H Q hs hd k => by
  obtain ⟨x, rfl, hx⟩ := hd.one
  cases hx with
  | @lst a xs _ ha hall =>
    obtain ⟨yss, h1, h2, h3⟩ := dqAll_lsts hs hall
    refine ⟨_, _, yss, rfl, SqL.of (hs _ _ ha), h1, fun p hp => ?_⟩
    rw [sort_by_len h2]
    refine k _ _ _ (.new hs hp) (.lst upd_same (DqAll.up (G := G) ?_ (same_new (hs.free hp))))
    have hlen : xs.length = ls.length := by simpa using hall.len
    have e : sortLen ls = ((xs.zip ls).mergeSort fun b c => decide (b.2.length ≤ c.2.length)).map (·.2) := by
      rw [List.map_mergeSort (r := fun (b c : V × List PyData) => decide (b.2.length ≤ c.2.length)) (s := fun b c => decide (b.length ≤ c.length)) (f := fun b => b.2) (fun _ _ _ _ => rfl), zip_snd hlen]
      rfl
    rw [e, List.map_map]
    have q := dqAll_of (G := G) (zs := ((xs.zip ls).mergeSort fun b c => decide (b.2.length ≤ c.2.length)).map fun b => (b.1, PyData.list b.2)) (fun b hb => by
      obtain ⟨c, hc, rfl⟩ := List.mem_map.mp hb
      exact h3 c ((List.mergeSort_perm _ _).mem_iff.mp hc))
    rw [List.map_map, List.map_map] at q
    exact q
end PD
set_option Elab.async false
set_option linter.all false
set_option maxRecDepth 100000
set_option maxHeartbeats 4000000
/-! PdStmt: own lists that a body fills; append, extend -/
namespace PD
open PySem PySem.Spec PyProof.Rows L2
/-- since (G0, H0): the frozen part is G, the heap H; the lists at ps are the body's own -/
structure Gr (G0 H0 : Hp) (ps : List Addr) (G H : Hp) : Prop where
  gg : Same G0 G
  gh : Same G H
  hh : Same H0 H
  fr : ∀ a, G a ≠ none → G0 a ≠ none ∨ H0 a = none
  own : ∀ p, p ∈ ps → G p = none ∧ H0 p = none ∧ ∃ xs, H p = some (.lst xs)
  nd : ps.Nodup
section
variable {G0 H0 G H G' H' : Hp} {ps : List Addr} {p : Addr} {xs ys : List V}
theorem Gr.start (h : Same G0 H0) : Gr G0 H0 [] G0 H0 := ⟨Same.refl _, h, Same.refl _, fun _ h => .inl h, by simp, List.nodup_nil⟩
theorem Gr.ext (g : Gr G0 H0 ps G H) (e : Ext G H G' H') : Gr G0 H0 ps G' H' := by
  refine ⟨g.gg.trans e.gg, e.gh, g.hh.trans e.hh, fun a h => (e.fr a h).elim (g.fr a) fun z => .inr (g.hh.free z), fun q hq => ?_, g.nd⟩
  obtain ⟨a1, a2, ys, a3⟩ := g.own q hq
  refine ⟨?_, a2, ys, e.hh _ _ a3⟩
  cases z : G' q with
  | none => rfl
  | some o =>
    rcases e.fr q (by simp [z]) with y | y
    · exact absurd a1 y
    · rw [a3] at y; cases y
theorem Gr.same (g : Gr G0 H0 ps G H) (e : Same H H') : Gr G0 H0 ps G H' := g.ext (.more g.gh e)
theorem Gr.new (g : Gr G0 H0 ps G H) (hp : H p = none) : Gr G0 H0 (p :: ps) G (upd H p (.lst xs)) := by
  refine ⟨g.gg, g.gh.trans (same_new hp), g.hh.trans (same_new hp), g.fr, fun q hq => ?_, List.nodup_cons.mpr ⟨fun m => ?_, g.nd⟩⟩
  · rcases List.mem_cons.mp hq with rfl | hq
    · exact ⟨g.gh.free hp, g.hh.free hp, xs, upd_same⟩
    · obtain ⟨a1, a2, ys, a3⟩ := g.own q hq
      exact ⟨a1, a2, ys, by rw [upd_ne (ne_of_none a3 hp)]; exact a3⟩
  · obtain ⟨_, _, ys, a3⟩ := g.own p m
    rw [hp] at a3; cases a3
theorem Gr.put (g : Gr G0 H0 ps G H) (hp : p ∈ ps) : Gr G0 H0 ps G (upd H p (.lst xs)) := by
  obtain ⟨a1, a2, _⟩ := g.own p hp
  refine ⟨g.gg, same_off g.gh a1, same_off g.hh a2, g.fr, fun q hq => ?_, g.nd⟩
  obtain ⟨b1, b2, ys, b3⟩ := g.own q hq
  by_cases e : q = p
  · subst e; exact ⟨b1, b2, xs, upd_same⟩
  · exact ⟨b1, b2, ys, by rw [upd_ne e]; exact b3⟩
theorem Gr.tmp (g : Gr G0 H0 ps G H) (hp : p ∈ ps) (h : H p = some (.lst xs)) : Same (upd G p (.lst xs)) H ∧ Same G (upd G p (.lst xs)) := by
  obtain ⟨a1, a2, _⟩ := g.own p hp
  refine ⟨fun b o e => ?_, same_new a1⟩
  by_cases z : b = p
  · subst z; rw [upd_same] at e; rw [h]; exact e
  · rw [upd_ne z] at e; exact g.gh _ _ e
theorem Gr.freeze (g : Gr G0 H0 (p :: ps) G H) (h : H p = some (.lst xs)) : Gr G0 H0 ps (upd G p (.lst xs)) H := by
  have hp : p ∈ p :: ps := List.mem_cons_self ..
  obtain ⟨a1, a2, _⟩ := g.own p hp
  have nd := List.nodup_cons.mp g.nd
  refine ⟨g.gg.trans (same_new a1), (g.tmp hp h).1, g.hh, fun a q => ?_, fun q hq => ?_, nd.2⟩
  · by_cases e : a = p
    · subst e; exact .inr a2
    · rw [upd_ne e] at q; exact g.fr a q
  · obtain ⟨b1, b2, b3⟩ := g.own q (List.mem_cons_of_mem _ hq)
    have ne : q ≠ p := fun e => nd.1 (by rw [← e]; exact hq)
    exact ⟨by rw [upd_ne ne]; exact b1, b2, b3⟩
/-- dropped -/
theorem Gr.drop (g : Gr G0 H0 (p :: ps) G H) : Gr G0 H0 ps G H := ⟨g.gg, g.gh, g.hh, g.fr, fun q hq => g.own q (List.mem_cons_of_mem _ hq), (List.nodup_cons.mp g.nd).2⟩
theorem Gr.done (g : Gr G0 H0 ps G H) : Ext G0 H0 G H := ⟨g.hh, g.gg, g.gh, g.fr⟩
end
/-! ### x.append(e), x.extend(e) of a name whose list is the body's own -/
section
variable {G0 H0 G H : Hp} {ps : List Addr} {p : Addr} {acc : List V} {K : PySem.W.Frag} {i : Nat} {te : TE} {D : Ends} {σ : L2.St} {d : PyData} {ds : List PyData}
theorem put_append (g : Gr G0 H0 ps G H) (hp : p ∈ ps) (hσ : σ[i]? = some (some (.ref p))) (hx : H p = some (.lst acc)) (h : PR te σ G d) (z : acc.length < sizeLine)
    (k : ∀ v G1 H1, Gr G0 H0 ps G1 H1 → Same G G1 → Dq G1 v d → H1 p = some (.lst (acc ++ [v])) → (∀ q o, q ≠ p → H q = some o → H1 q = some o) → D.nx σ H1) : tDrop (tBM K "list" rAppend (tVar i) (tCons te tNil)) D σ H := by
  refine ⟨_, hσ, .inl ⟨rfl, _, SqL.of hx⟩, h H _ g.gh fun v G1 H1 e1 dv => ?_⟩
  have g1 := g.ext e1
  exact ⟨p, acc, v, rfl, rfl, e1.hh _ _ hx, z, k v G1 _ (g1.put hp) e1.gg dv upd_same fun q o hq e => by rw [upd_ne hq]; exact e1.hh _ _ e⟩
theorem put_extend (g : Gr G0 H0 ps G H) (hp : p ∈ ps) (hσ : σ[i]? = some (some (.ref p))) (hx : H p = some (.lst acc)) (h : PR te σ G (.list ds)) (z : acc.length + ds.length ≤ sizeLine)
    (k : ∀ vs G1 H1, Gr G0 H0 ps G1 H1 → Same G G1 → DqAll G1 vs ds → H1 p = some (.lst (acc ++ vs)) → (∀ q o, q ≠ p → H q = some o → H1 q = some o) → D.nx σ H1) : tDrop (tBM K "list" rExtend (tVar i) (tCons te tNil)) D σ H := by
  refine ⟨_, hσ, .inl ⟨rfl, _, SqL.of hx⟩, h H _ g.gh fun v G1 H1 e1 dv => ?_⟩
  have g1 := g.ext e1
  cases dv with
  | lst ha hall =>
    exact ⟨p, _, acc, _, rfl, rfl, e1.hh _ _ hx, e1.gh _ _ ha, by rw [hall.len]; exact z, k _ G1 _ (g1.put hp) e1.gg hall upd_same fun q o hq e => by rw [upd_ne hq]; exact e1.hh _ _ e⟩
end
/-- the terms for x.append(e), x.extend(e) -/
theorem xs_append {X : Cx} {o e : Expr} {to te : TE} {p1 p2 p3 : Pos} (ho : PE X o to) (he : PE X e te) (hs : starEach [e] X.env = (false, eval e X.env) :: starEach [] X.env := by rfl)
    (hb : attributeBase o "append" X.env (eval o X.env) = eval o X.env := by rfl)
    (hfew : ((backTo p2 (starEach [e] X.env)).all (fun x => !x.1) && (backToKw p2 (keywordEach [] X.env)).all (fun x => x.1.isSome) && decide ([e].length + ([] : List Keyword).length + (if ([] : List Keyword).isEmpty then 0 else 1) < 30)) = true := by rfl)
    (hl : (p1.endLine == p2.line) = true := by rfl) (hw : swapsWith (.Call (.Attribute o "append" p1) [e] [] p2) none p3.line X.env = pure false := by rfl) :
    PS X (.Expr (.Call (.Attribute o "append" p1) [e] [] p2) p3) (tDrop (tBM X.K "list" rAppend to (tCons te tNil))) :=
  ps_expr (pe_bm PySem.F.plainAttrs_list PySem.F.slot_list_append PySem.F.type_list_append mt_append ho (pa_cons he pa_nil hs) (hs := hs) (hbase := hb) (hfew := hfew) (hline := hl)) hw
theorem xs_extend {X : Cx} {o e : Expr} {to te : TE} {p1 p2 p3 : Pos} (ho : PE X o to) (he : PE X e te) (hs : starEach [e] X.env = (false, eval e X.env) :: starEach [] X.env := by rfl)
    (hb : attributeBase o "extend" X.env (eval o X.env) = eval o X.env := by rfl)
    (hfew : ((backTo p2 (starEach [e] X.env)).all (fun x => !x.1) && (backToKw p2 (keywordEach [] X.env)).all (fun x => x.1.isSome) && decide ([e].length + ([] : List Keyword).length + (if ([] : List Keyword).isEmpty then 0 else 1) < 30)) = true := by rfl)
    (hl : (p1.endLine == p2.line) = true := by rfl) (hw : swapsWith (.Call (.Attribute o "extend" p1) [e] [] p2) none p3.line X.env = pure false := by rfl) :
    PS X (.Expr (.Call (.Attribute o "extend" p1) [e] [] p2) p3) (tDrop (tBM X.K "list" rExtend to (tCons te tNil))) :=
  ps_expr (pe_bm PySem.F.plainAttrs_list PySem.F.slot_list_extend PySem.F.type_list_extend mt_extend ho (pa_cons he pa_nil hs) (hs := hs) (hbase := hb) (hfew := hfew) (hline := hl)) hw
end PD
namespace PD
open PySem PySem.Spec PyProof.Rows L2
section
variable {G0 H0 G G1 H H' : Hp} {ps : List Addr} {x : V} {d : PyData}
/-- behind a turn's item -/
theorem Gr.yld (g : Gr G0 H0 ps G H) (h1 : Same G1 G) (y : ∀ G2, Same G1 G2 → Same G2 H → ∃ G3, Ext G2 H G3 H' ∧ Dq G3 x d) : ∃ G3, Gr G0 H0 ps G3 H' ∧ Same G G3 ∧ Dq G3 x d := by
  obtain ⟨G3, e, dx⟩ := y G h1 g.gh
  exact ⟨G3, g.ext e, e.gg, dx⟩
/-- the own lists stand as they stood -/
theorem Gr.at (g : Gr G0 H0 ps G H) (e : Same H H') {p : Addr} {xs : List V} (h : H p = some (.lst xs)) : H' p = some (.lst xs) := e _ _ h
end
/-- every two can be compared, none is None, all are small -/
def Kin (ds : List PyData) : Prop := PySem.W.AllAlike ds ∧ ∀ d, d ∈ ds → d ≠ .none ∧ Sh 3 d
theorem Kin.sub {ds es : List PyData} (h : Kin ds) (s : ∀ d, d ∈ es → d ∈ ds) : Kin es := ⟨fun d hd e he => h.1 d (s d hd) e (s e he), fun d hd => h.2 d (s d hd)⟩
theorem Kin.shL {ds : List PyData} (h : Kin ds) : ShL 3 ds := fun d hd => (h.2 d hd).2
theorem Kin.sortOk {ds : List PyData} (h : Kin ds) : SortOk ds := ⟨h.1, fun d hd => ⟨(h.2 d hd).1, Nat.le_trans (h.2 d hd).2.2 (by decide), (h.2 d hd).2.noDict⟩⟩
theorem sortD_mem {ds : List PyData} {d : PyData} : d ∈ sortD ds ↔ d ∈ ds := (List.mergeSort_perm ds leD).mem_iff
theorem sortD_len (ds : List PyData) : (sortD ds).length = ds.length := (List.mergeSort_perm ds leD).length_eq
theorem sortLen_mem {α : Type} {ls : List (List α)} {l : List α} : l ∈ sortLen ls ↔ l ∈ ls := (List.mergeSort_perm ls _).mem_iff
theorem sortLen_len {α : Type} (ls : List (List α)) : (sortLen ls).length = ls.length := (List.mergeSort_perm ls _).length_eq
end PD
namespace PD
open PySem PySem.Spec PyProof.Rows L2
theorem tFor_use {wi : TI} {g : TG} {tb : TS} {D : Ends} {σ : L2.St} {G H : Hp} {ds : List PyData} (hs : Same G H) (hw : WR wi σ G ds)
    (k : ∀ J G1 H1, Ext G H G1 H1 → DW J G1 ds → ∃ W : Nat → Nat → L2.St → Hp → Prop, (∃ m, W 0 m σ H1) ∧ ∀ i m σ H, W i m σ H → (J.stop i H ∧ D.nx σ H) ∨ (J.go i H ∧ ∃ N : L2.St → Hp → Prop, (∀ σ' H', N σ' H' → ∃ m', m' < m ∧ W (i + 1) m' σ' H') ∧
      ∀ x H', J.yld i H x H' → g x σ H' fun σ2 H2 => tb { D with nx := N, ct := N, bk := D.nx } σ2 H2)) : tFor wi g tb D σ H := hw H _ hs k
end PD
namespace PD
open PySem PySem.Spec PyProof.Rows L2
/-- the turns of a for over one name -/
theorem for_nm {J : It} {G : Hp} {ds : List PyData} {i : Nat} {tb : TS} {D : Ends} {σ : L2.St} {H : Hp} (dw : DW J G ds) (Pv : Nat → L2.St → Hp → Prop) (h0 : Pv 0 σ H) (hG : ∀ j σ H, j ≤ ds.length → Pv j σ H → Same G H)
    (hs : ∀ j d x σ H H', ds[j]? = some d → Pv j σ H → Same H H' → (∀ G1, Same G G1 → Same G1 H → ∃ G2, Ext G1 H G2 H' ∧ Dq G2 x d) → tb { D with nx := Pv (j + 1), ct := Pv (j + 1), bk := D.nx } (σ.set i (some x)) H') (hd : ∀ σ H, Pv ds.length σ H → D.nx σ H) :
    ∃ W : Nat → Nat → L2.St → Hp → Prop, (∃ m, W 0 m σ H) ∧ ∀ j m σ H, W j m σ H → (J.stop j H ∧ D.nx σ H) ∨ (J.go j H ∧ ∃ N : L2.St → Hp → Prop, (∀ σ' H', N σ' H' → ∃ m', m' < m ∧ W (j + 1) m' σ' H') ∧
      ∀ x H', J.yld j H x H' → gName i x σ H' fun σ2 H2 => tb { D with nx := N, ct := N, bk := D.nx } σ2 H2) :=
  for_it dw.w Pv h0 hG (fun j x σ H H' _ p ⟨d, a, b, c⟩ => hs j d x σ H H' a p b c) hd
theorem tIf_use {tc : TT} {t u : TS} {D : Ends} {σ : L2.St} {G H : Hp} {b : Bool} (h : TR tc σ G b) (hs : Same G H) (k : ∀ H', Same H H' → if b = true then t D σ H' else u D σ H') : tIfS tc t u D σ H := h H _ hs k
end PD
namespace PD
open PySem PySem.Spec PyProof.Rows L2
theorem tSet_use {te : TE} {i : Nat} {D : Ends} {σ : L2.St} {G H : Hp} {d : PyData} (hs : Same G H) (h : PR te σ G d) (k : ∀ v G' H', Ext G H G' H' → Dq G' v d → D.nx (σ.set i (some v)) H') : tAsg te (gName i) D σ H := h H _ hs k
theorem tRet_use {te : TE} {D : Ends} {σ : L2.St} {G H : Hp} {d : PyData} (hs : Same G H) (h : PR te σ G d) (k : ∀ v G' H', Ext G H G' H' → Dq G' v d → D.rt v H') : tRet te D σ H := h H _ hs k
end PD
set_option Elab.async false
set_option linter.all false
set_option maxRecDepth 100000
set_option maxHeartbeats 4000000
/-! K48a: the text by places; plain defs -/
namespace K48
open PySem PySem.Spec PyProof.Rows L2 PD StX RZ
def top (i : Nat) : Stmt := PySem.Challenge.pw_roadheld_k48_whole_meetings_and_few_aski.main.body.getD i (.Pass ⟨0, 0, 0, 0⟩)
abbrev sIsList : Stmt := top 1
abbrev sUnlike : Stmt := top 2
abbrev sKept : Stmt := top 9
abbrev sThings : Stmt := top 10
abbrev sLots : Stmt := top 11
abbrev sWithin : Stmt := top 12
abbrev sLeast : Stmt := top 13
abbrev sMeetings : Stmt := top 14
abbrev sMeeting : Stmt := top 15
section
variable {P : Program} {w : World} {K : PySem.W.Frag} {mg : Str → Option Value} {base : Heap}
/-! ### is_list -/
def isSeq : PyData → Bool
  | .list _ => true
  | .tuple _ => true
  | _ => false
theorem isSeq_eq (d : PyData) : (isL d || isT d) = isSeq d := by cases d <;> rfl
theorem scIsList : FnScope ["thing"] ["thing"] (defScope sIsList) := ⟨rfl, rfl, rfl, by decide +kernel, rfl, by decide +kernel, by decide +kernel⟩
theorem fn_isList (D : Df K mg "is_list" sIsList) (m1 : mg "isinstance" = none) (m2 : mg "list" = none) (m3 : mg "tuple" = none) : Fn P w K mg base CX0 "is_list" 1 1 (spP fun ds d => ∃ a, ds = [a] ∧ d = .bool (isSeq a)) := by
  refine D.pure scIsList (by rintro ds d ⟨a, rfl, _⟩; rfl) rfl (fun _ _ _ _ _ _ us hl => match us, hl with | [_], _ => rfl) fun f cdv A outer s H E G vs ds d Q hr hG hv hD k => ?_
  obtain ⟨a, rfl, rfl⟩ := hD
  obtain ⟨v, rfl, da⟩ := hv.one
  refine ⟨_, pss_one (ps_ret (xe_isi2 (K := K) (U := "list") (U' := "tuple") m1 m2 m3 (by decide +kernel) (by decide +kernel) (pv 0))), ?_⟩
  exact (PR_isi2 (PR_var rfl da) (kitL a) (kitT a)).eq (by rw [isSeq_eq]) H Q hG k
/-! ### are_unlike -/
/-- each with its place -/
def enumN : Nat → List PyData → List (Nat × PyData)
  | _, [] => []
  | k, d :: ds => (k, d) :: enumN (k + 1) ds
def encN (b : Nat × PyData) : PyData := .tuple [.int b.1, b.2]
theorem enumD_eq : ∀ (k : Nat) (ds : List PyData), enumD k ds = (enumN k ds).map encN
  | _, [] => rfl
  | k, d :: ds => by rw [enumD, enumN, List.map_cons, enumD_eq (k + 1) ds]; rfl
theorem enumN_mem : ∀ {k : Nat} {ds : List PyData} {b : Nat × PyData}, b ∈ enumN k ds → b.2 ∈ ds
  | _, [], b, h => by simp [enumN] at h
  | k, d :: ds, b, h => by
    rw [enumN] at h
    rcases List.mem_cons.mp h with rfl | h
    · exact List.mem_cons_self ..
    · exact List.mem_cons_of_mem _ (enumN_mem h)
theorem enumN_len : ∀ (k : Nat) (ds : List PyData), (enumN k ds).length = ds.length
  | _, [] => rfl
  | k, d :: ds => by simp [enumN, enumN_len (k + 1) ds]
def hasD (ds : List PyData) (d : PyData) : Bool := ds.any fun z => PyData.eqv z d
def unlikeD (ds : List PyData) : Bool := (enumN 0 ds).all fun b => !hasD (ds.take b.1) b.2
abbrev nUnlike : List Str := ["things", "index", "thing"]
theorem scUnlike : FnScope nUnlike ["things"] (defScope sUnlike) := ⟨rfl, rfl, rfl, by decide +kernel, rfl, by decide +kernel, by decide +kernel⟩
theorem fn_unlike (D : Df K mg "are_unlike" sUnlike) (m1 : mg "all" = none) (m2 : mg "enumerate" = none) : Fn P w K mg base CX0 "are_unlike" 1 1 (spP fun ds d => ∃ xs, ds = [.list xs] ∧ d = .bool (unlikeD xs) ∧ ShL 10 xs ∧ xs.length ≤ 1000) := by
  refine D.pure scUnlike (by rintro ds d ⟨a, rfl, _⟩; rfl) rfl (fun _ _ _ _ _ _ us hl => match us, hl with | [_], _ => rfl) fun f cdv A outer s H E G vs ds d Q hr hG hv hD k => ?_
  obtain ⟨xs, rfl, rfl, hs, hz⟩ := hD
  obtain ⟨v, rfl, da⟩ := hv.one
  have hu := hr.u65
  refine ⟨_, pss_one (ps_ret (xe_all (K := K) m1
    (pe_lc (own := [("index", 1), ("thing", 2)]) (g := gTup K 2 (gCons (gName 1) (gCons (gName 2) gNil))) (tt := tYes) rfl scUnlike.nd (pi_enum (by rfl) m2 (pa_cons (pv 0) pa_nil)) (blkOk_by (N := nUnlike) (sc := defScope sUnlike) (by decide +kernel))
      (fun _ _ _ _ _ => pg_tup rfl (pgs_cons (pg_name (i := 1) scUnlike.nd rfl (.inl rfl)) (pgs_cons (pg_name (i := 2) scUnlike.nd rfl (.inl rfl)) pgs_nil))) (fun _ _ _ _ _ => pts_nil)
      (fun _ _ _ _ _ => xe_notin (K := K) hu (pv 2) (xe_slTo (K := K) (pv 0) (pv 1)))))), ?_⟩
  refine (PR_all (bs := enumN 0 xs) (q := fun b => !hasD (xs.take b.1) b.2) (PR_map2 (enc := encN) (e1 := fun b => .int b.1) (e2 := fun b => b.2) (fun _ _ => rfl) ?_ (fun _ _ => rfl) (fun G1 b v u h1 hb dv du => ?_) (by rw [enumN_len, sizeLine_eq]; omega))) H Q hG k
  · rw [← enumD_eq]
    exact WR_enum (PRA_one (PR_var rfl da))
  · have hb2 := enumN_mem hb
    have hx : ShL 10 (xs.take b.1) := fun d hd => hs d (List.mem_of_mem_take hd)
    exact PR_op (RR2_notin ((hs _ hb2).shaped (by decide)) (hx.list.shaped (by decide))) (PR_var rfl du) (PR_slTo (PR_var rfl (da.up h1)) (PR_var rfl dv))
/-! ### kept_thing -/
def keptD : PyData → PyData
  | .str x => .str x
  | .list ds => if ds.all isS then .tuple ds else .none
  | .tuple ds => if ds.all isS then .tuple ds else .none
  | _ => .none
def itemsD : PyData → List PyData
  | .list ds => ds
  | .tuple ds => ds
  | _ => []
abbrev nKept : List Str := ["thing", "one"]
theorem scKept : FnScope nKept ["thing"] (defScope sKept) := ⟨rfl, rfl, rfl, by decide +kernel, rfl, by decide +kernel, by decide +kernel⟩
theorem fn_kept (D : Df K mg "kept_thing" sKept) (FL : Fn P w K mg base CX0 "is_list" 1 1 (spP fun ds d => ∃ a, ds = [a] ∧ d = .bool (isSeq a))) (m1 : mg "isinstance" = none) (m2 : mg "str" = none) (m3 : mg "tuple" = none) (m4 : mg "all" = none) :
    Fn P w K mg base CX0 "kept_thing" 2 1 (spP fun ds d => ∃ a, ds = [a] ∧ d = keptD a ∧ (itemsD a).length ≤ 1000) := by
  refine D.pure scKept (by rintro ds d ⟨a, rfl, _⟩; rfl) rfl (fun _ _ _ _ _ _ us hl => match us, hl with | [_], _ => rfl) fun f cdv A outer s H E G vs ds d Q hr hG hv hD k => ?_
  obtain ⟨a, rfl, rfl, hz⟩ := hD
  obtain ⟨v, rfl, da⟩ := hv.one
  refine ⟨_, pss_cons (ps_if (pt_val (xe_isi (K := K) m1 m2 (U := "str") (by decide +kernel) (pv 0))) (pss_one (ps_ret (pv 0))) pss_nil)
    (pss_one (ps_ret (pe_ifExp (pw_and (pt_val (pe_fn FL hr (by rfl) pass0 (pa_cons (pv 0) pa_nil))) (pw_and1 (pt_val (xe_all (K := K) m4
      (xe_lc1 (tt := tYes) nKept (defScope sKept) 1 (pi_seq (pv 0)) (by decide +kernel) scKept.nd (.inr rfl) (fun _ _ _ _ _ => pts_nil)
        (fun _ _ _ _ _ => xe_isi (K := K) m1 m2 (U := "str") (by decide +kernel) (pv 1))))))).pt (xe_tuple (K := K) m3 (pv 0)) pe_non))), ?_⟩
  refine TR_tB (PR_isi (PR_var rfl da) (kitS a)) H _ hG fun H1 e1 => ?_
  have hseq : ∀ {G1 : Hp}, Same G G1 → isSeq a = true → WR (iSeq K (tVar 0)) [some v, none] G1 ((itemsD a).map id) := fun {G1} g1 h => by
    rw [List.map_id]
    cases a with
    | list ds => exact WR_seqL (PR_var rfl (da.up g1))
    | tuple ds => exact WR_seqT (PR_var rfl (da.up g1))
    | _ => simp [isSeq] at h
  have rest : isS a = false → PR (tIf (tAnd (tB (tCall (spP fun ds d => ∃ a, ds = [a] ∧ d = .bool (isSeq a)) [] E0 (tCons (tVar 0) tNil))) (tB (tCB (rAll K) (tCons (tLc (iSeq K (tVar 0)) (gName 1) tYes (tCB (rIsi K) (tCons (tVar 1) (tCons (tC (.ty "str")) tNil))) [1]) tNil)))) (tCB (rTupleQ K) (tCons (tVar 0) tNil)) (tC .non)) [some v, none] G (keptD a) := fun hs => by
    refine PR_if (b := isSeq a && (itemsD a).all isS) (TR_and (TR_tB (PR_call (PRA_one (PR_var rfl da)) ⟨a, rfl, rfl⟩)) fun h => TR_tB (PR_all (bs := itemsD a) (q := isS) (PR_map1 (enc := id) (hseq (Same.refl _) h) (fun _ => rfl) (fun G1 b v h1 hb dv => PR_isi (PR_var rfl dv) (kitS b)) (by rw [sizeLine_eq]; omega)))) (fun h => ?_) (fun h => ?_)
    · cases a with
      | list ds =>
        have e : ds.all isS = true := by simpa [isSeq, itemsD] using h
        exact (PR_CB RR_tupleL (PRA_one (PR_var rfl da))).eq (by simp only [keptD, e, if_true])
      | tuple ds =>
        have e : ds.all isS = true := by simpa [isSeq, itemsD] using h
        exact (PR_CB RR_tupleT (PRA_one (PR_var rfl da))).eq (by simp only [keptD, e, if_true])
      | _ => simp [isSeq] at h
    · refine PR_non.eq ?_
      cases a with
      | list ds =>
        have e : ds.all isS = false := by simpa [isSeq, itemsD] using h
        simp only [keptD, e, Bool.false_eq_true, if_false]
      | tuple ds =>
        have e : ds.all isS = false := by simpa [isSeq, itemsD] using h
        simp only [keptD, e, Bool.false_eq_true, if_false]
      | str x => simp [isS] at hs
      | _ => rfl
  cases hs : isS a with
  | true =>
    refine iteT ?_
    cases a with
    | str x => exact PR_var rfl da H1 Q (hG.trans e1) fun v G' H' e dv => k v G' H' ((Ext.more hG e1).trans e) dv
    | _ => simp [isS] at hs
  | false => exact iteF (rest hs H1 Q (hG.trans e1) fun v G' H' e dv => k v G' H' ((Ext.more hG e1).trans e) dv)
/-! ### is_within -/
def withinD (xs ys : List PyData) : Bool := xs.all fun a => hasD ys a
abbrev nWithin : List Str := ["some", "others", "one"]
theorem scWithin : FnScope nWithin ["some", "others"] (defScope sWithin) := ⟨rfl, rfl, rfl, by decide +kernel, rfl, by decide +kernel, by decide +kernel⟩
def DWithin (ds : List PyData) (d : PyData) : Prop := ∃ xs ys, ds = [.list xs, .list ys] ∧ d = .bool (withinD xs ys) ∧ ShL 10 xs ∧ ShL 10 ys ∧ xs.length ≤ 1000
theorem fn_within (D : Df K mg "is_within" sWithin) (m1 : mg "all" = none) : Fn P w K mg base CX0 "is_within" 1 2 (spP DWithin) := by
  refine D.pure scWithin (by rintro ds d ⟨a, b, rfl, _⟩; rfl) rfl (fun _ _ _ _ _ _ us hl => match us, hl with | [_, _], _ => rfl) fun f cdv A outer s H E G vs ds d Q hr hG hv hD k => ?_
  obtain ⟨xs, ys, rfl, rfl, hx, hy, hz⟩ := hD
  obtain ⟨v, u, rfl, dv, du⟩ := hv.two
  have hu := hr.u65
  refine ⟨_, pss_one (ps_ret (xe_all (K := K) m1 (xe_lc1 (tt := tYes) nWithin (defScope sWithin) 2 (pi_list (pv 0)) (by decide +kernel) scWithin.nd (.inr rfl) (fun _ _ _ _ _ => pts_nil)
    (fun _ _ _ _ _ => xe_in (K := K) hu (pv 2) (pv 1))))), ?_⟩
  exact (PR_all (bs := xs) (q := fun a => hasD ys a) (PR_map1 (enc := id) (by rw [List.map_id]; exact WR_list (PR_var rfl dv)) (fun _ => rfl) (fun G1 b v h1 hb dv => PR_op (RR2_in ((hx b hb).shaped (by decide)) (hy.list.shaped (by decide))) (PR_var rfl dv) (PR_var rfl (du.up h1))) (by rw [sizeLine_eq]; omega))) H Q hG k
end
end K48
set_option Elab.async false
set_option linter.all false
set_option maxRecDepth 100000
set_option maxHeartbeats 4000000
/-! K48b: least_lists, meeting_lists -/
namespace K48
open PySem PySem.Spec PyProof.Rows L2 PD StX RZ
section
variable {P : Program} {w : World} {K : PySem.W.Frag} {mg : Str → Option Value} {base : Heap}
/-! ### least_lists -/
def leastStep (found : List (List PyData)) (one : List PyData) : List (List PyData) := if found.any (fun o => withinD o one) = true then found else found ++ [one]
def leastD (ls : List (List PyData)) : List (List PyData) := (sortLen ls).foldl leastStep []
theorem foldl_take {α β : Type} (f : β → α → β) (b : β) (l : List α) (i : Nat) (x : α) (h : l[i]? = some x) : (l.take (i + 1)).foldl f b = f ((l.take i).foldl f b) x := by
  rw [List.take_add_one, h, List.foldl_append]
  rfl
theorem least_fold_sub : ∀ (ls : List (List PyData)) (acc : List (List PyData)) (l : List PyData), l ∈ ls.foldl leastStep acc → l ∈ acc ∨ l ∈ ls
  | [], acc, l, h => .inl h
  | x :: ls, acc, l, h => by
    rw [List.foldl_cons] at h
    rcases least_fold_sub ls _ l h with q | q
    · unfold leastStep at q
      split at q
      · exact .inl q
      · rcases List.mem_append.mp q with q | q
        · exact .inl q
        · exact .inr (by simp at q; simp [q])
    · exact .inr (List.mem_cons_of_mem _ q)
theorem least_fold_len : ∀ (ls : List (List PyData)) (acc : List (List PyData)), (ls.foldl leastStep acc).length ≤ acc.length + ls.length
  | [], acc => by simp
  | x :: ls, acc => by
    rw [List.foldl_cons]
    have h := least_fold_len ls (leastStep acc x)
    have h2 : (leastStep acc x).length ≤ acc.length + 1 := by unfold leastStep; split <;> simp
    simp only [List.length_cons]
    omega
theorem leastD_sub {ls : List (List PyData)} {l : List PyData} (h : l ∈ leastD ls) : l ∈ ls := (least_fold_sub _ _ _ h).elim (fun z => by simp at z) fun z => sortLen_mem.mp z
abbrev nLeast : List Str := ["lists", "found", "one", "other"]
theorem scLeast : FnScope nLeast ["lists"] (defScope sLeast) := ⟨rfl, rfl, rfl, by decide +kernel, rfl, by decide +kernel, by decide +kernel⟩
def DLeast (ds : List PyData) (d : PyData) : Prop := ∃ ls, ds = [.list (ls.map .list)] ∧ d = .list ((leastD ls).map .list) ∧ (∀ l, l ∈ ls → ShL 3 l ∧ l.length ≤ 1000) ∧ ls.length ≤ 2000000
theorem map_get {ls : List (List PyData)} {i : Nat} {d : PyData} (h : (ls.map PyData.list)[i]? = some d) : ∃ l, ls[i]? = some l ∧ d = .list l := by
  rw [List.getElem?_map] at h
  cases q : ls[i]? with
  | none => rw [q] at h; simp at h
  | some l => rw [q] at h; exact ⟨l, rfl, (Option.some.inj h).symm⟩
theorem fn_least (D : Df K mg "least_lists" sLeast) (FW : Fn P w K mg base CX0 "is_within" 1 2 (spP DWithin)) (m1 : mg "sorted" = none) (m2 : mg "len" = none) (m3 : mg "any" = none) : Fn P w K mg base CX0 "least_lists" 2 1 (spP DLeast) := by
  refine D.pure scLeast (by rintro ds d ⟨a, rfl, _⟩; rfl) rfl (fun _ _ _ _ _ _ us hl => match us, hl with | [_], _ => rfl) fun f cdv A outer s H E G vs ds d Q hr hG hv hD k => ?_
  obtain ⟨ls, rfl, rfl, hx, hz⟩ := hD
  obtain ⟨v, rfl, da⟩ := hv.one
  have hu := hr.u65
  refine ⟨_, pss_cons (ps_set (i := 1) scLeast.nd rfl (.inl rfl) (pe_lst pa_nil))
    (pss_cons (ps_for PassesOwn.never rfl (pi_list (xe_sortedLen (K := K) m1 m2 hu (pv 0))) (pg_name (i := 2) scLeast.nd rfl (.inr rfl))
      (pss_one (ps_if (pt_not (pt_val (xe_any (K := K) m3 (xe_lc1 (tt := tYes) nLeast (defScope sLeast) 3 (pi_list (pv 1)) (by decide +kernel) scLeast.nd (.inr rfl) (fun _ _ _ _ _ => pts_nil)
        (fun _ _ _ _ _ => pe_fn FW hr (by rfl) pass0 (pa_cons (pv 3) (pa_cons (pv 2) pa_nil))))))) (pss_one (xs_append (pv 1) (pv 2))) pss_nil)))
    (pss_one (ps_ret (pv 1)))), ?_⟩
  refine ⟨by show 0 ≤ sizeLine; omega, fun p hp => ?_⟩
  have g0 : Gr G H [p] G (upd H p (.lst [])) := (Gr.start hG).new hp
  refine tFor_use (ds := (sortLen ls).map .list) g0.gh (WR_list (PR_CB (RR_sortLen (ls := ls)) (PRA_one (PR_var (by rfl) da)))) fun J G1 H1 e1 dw => ?_
  have hsz : sizeLine = 16777216 := sizeLine_eq
  refine for_nm dw (fun i σ H2 => ∃ (G2 : Hp) (acc : List V) (vo : Option V), σ = [some v, some (.ref p), vo, none] ∧ Gr G H [p] G2 H2 ∧ Same G1 G2 ∧ H2 p = some (.lst acc) ∧ DqAll G2 acc ((((sortLen ls).take i).foldl leastStep []).map .list)) ?_ ?_ ?_ ?_
  · exact ⟨G1, [], none, rfl, g0.ext e1, Same.refl _, e1.hh _ _ upd_same, .nil⟩
  · rintro i σ H2 _ ⟨G2, acc, vo, rfl, g, h1, _⟩
    exact h1.trans g.gh
  · rintro i dd x σ H2 H3 q1 ⟨G2, acc, vo, rfl, g, h1, hacc, hd⟩ q2 q3
    obtain ⟨l, hl, rfl⟩ := map_get q1
    obtain ⟨G3, g3, s3, dx⟩ := g.yld h1 q3
    have hacc3 := q2 _ _ hacc
    have hd3 := hd.up s3
    have hlm : l ∈ ls := sortLen_mem.mp (List.mem_of_getElem? hl)
    have mem0 : ∀ o, o ∈ ((sortLen ls).take i).foldl leastStep [] → o ∈ ls := fun o ho => (least_fold_sub _ _ _ ho).elim (fun z => by simp at z) fun z => sortLen_mem.mp (List.mem_of_mem_take z)
    have len0 : (((sortLen ls).take i).foldl leastStep []).length ≤ 2000000 := by
      have q := least_fold_len ((sortLen ls).take i) []
      rw [List.length_take, sortLen_len] at q
      simp only [List.length_nil] at q
      omega
    obtain ⟨t1, t2⟩ := g3.tmp (List.mem_cons_self ..) hacc3
    have hfold := foldl_take leastStep [] (sortLen ls) i l hl
    generalize ((sortLen ls).take i).foldl leastStep [] = F at hd3 mem0 len0 hfold
    have test : TR (tNot (tB (tCB (rAny K) (tCons (tLc (iList K (tVar 1)) (gName 3) tYes (tCall (spP DWithin) [] E0 (tCons (tVar 3) (tCons (tVar 2) tNil))) [3]) tNil)))) [some v, some (.ref p), some x, none] (upd G3 p (.lst acc)) (!F.any fun o => withinD o l) :=
      TR_not (TR_tB (PR_any (bs := F) (q := fun o => withinD o l) (PR_map1 (enc := PyData.list) (WR_list (PR_var rfl (.lst upd_same (hd3.up t2)))) (fun _ => rfl)
        (fun G4 o u h4 ho du => PR_call (PRA_two (PR_var rfl du) (PR_var rfl ((dx.up t2).up h4))) ⟨o, l, rfl, rfl, (hx o (mem0 o ho)).1.mono (by decide), (hx l hlm).1.mono (by decide), (hx o (mem0 o ho)).2⟩) (by omega))))
    refine tIf_use test t1 fun H4 e4 => ?_
    have g4 := g3.same e4
    have hacc4 := e4 _ _ hacc3
    cases hb : F.any (fun o => withinD o l) with
    | true =>
      refine iteF ⟨G3, acc, some x, rfl, g4, h1.trans s3, hacc4, ?_⟩
      rw [hfold]
      unfold leastStep
      rw [if_pos hb]
      exact hd3
    | false =>
      refine iteT (put_append g4 (List.mem_cons_self ..) rfl hacc4 (PR_var rfl dx) ?_ fun u G5 H5 g5 s5 du h5 _ => ⟨G5, _, some x, rfl, g5, (h1.trans s3).trans s5, h5, ?_⟩)
      · rw [hd3.len, List.length_map]; omega
      · rw [hfold]
        unfold leastStep
        rw [if_neg (by rw [hb]; simp), List.map_append]
        exact (hd3.up s5).snoc du
  · rintro σ H2 ⟨G2, acc, vo, rfl, g, h1, hacc, hd⟩
    have gf := g.freeze hacc
    refine ⟨_, rfl, k _ _ _ gf.done (.lst upd_same ?_)⟩
    rw [List.length_map, List.take_length] at hd
    exact hd.up (g.tmp (List.mem_cons_self ..) hacc).2
/-! ### meeting_lists -/
def meetOne (lot : List PyData) (one : List PyData) : List (List PyData) := if one.any (fun t => hasD lot t) = true then [one] else lot.map fun t => sortD (one ++ [t])
def meetStep (found : List (List PyData)) (lot : List PyData) : List (List PyData) := leastD (found.flatMap (meetOne lot))
def meetD (lots : List (List PyData)) : List (List PyData) := lots.foldl meetStep [[]]
theorem meetD_sub {A : List PyData} : ∀ (lots : List (List PyData)) (acc : List (List PyData)), (∀ l, l ∈ lots → ∀ t, t ∈ l → t ∈ A) → ∀ n, (∀ l, l ∈ acc → l.length ≤ n ∧ ∀ t, t ∈ l → t ∈ A) → ∀ l, l ∈ lots.foldl meetStep acc → l.length ≤ n + lots.length ∧ ∀ t, t ∈ l → t ∈ A
  | [], acc, _, n, h, l, hl => by simpa using h l hl
  | lot :: lots, acc, hA, n, h, l, hl => by
    rw [List.foldl_cons] at hl
    have q := meetD_sub lots (meetStep acc lot) (fun l m => hA l (List.mem_cons_of_mem _ m)) (n + 1) (fun l m => ?_) l hl
    · rw [List.length_cons]
      exact ⟨by omega, q.2⟩
    · have m2 := leastD_sub m
      obtain ⟨one, h1, h2⟩ := List.mem_flatMap.mp m2
      unfold meetOne at h2
      split at h2
      · simp only [List.mem_singleton] at h2
        subst h2
        exact ⟨by have := (h l h1).1; omega, (h l h1).2⟩
      · obtain ⟨t, ht, rfl⟩ := List.mem_map.mp h2
        refine ⟨by rw [sortD_len, List.length_append]; have := (h one h1).1; simp only [List.length_singleton]; omega, fun x hx => ?_⟩
        rcases List.mem_append.mp (sortD_mem.mp hx) with y | y
        · exact (h one h1).2 x y
        · simp only [List.mem_singleton] at y
          subst y
          exact hA lot (List.mem_cons_self ..) x ht
abbrev nMeetings : List Str := ["lots", "found", "lot", "some", "one", "is_met", "thing"]
theorem scMeetings : FnScope nMeetings ["lots"] (defScope sMeetings) := ⟨rfl, rfl, rfl, by decide +kernel, rfl, by decide +kernel, by decide +kernel⟩
def DMeetings (ds : List PyData) (d : PyData) : Prop := ∃ lots A, ds = [.list (lots.map .list)] ∧ d = .list ((meetD lots).map .list) ∧ Kin A ∧ (∀ l, l ∈ lots → ∀ t, t ∈ l → t ∈ A) ∧ (∀ l, l ∈ lots → l.length ≤ 1000) ∧ lots.length ≤ 900 ∧ ∀ k, (meetD (lots.take k)).length ≤ 1000
theorem flat_take (f : List PyData → List (List PyData)) (l : List (List PyData)) (i : Nat) (x : List PyData) (h : l[i]? = some x) : (l.take (i + 1)).flatMap f = (l.take i).flatMap f ++ f x := by
  rw [List.take_add_one, h, List.flatMap_append]
  simp
theorem flat_len (f : List PyData → List (List PyData)) (n : Nat) : ∀ (l : List (List PyData)), (∀ x, x ∈ l → (f x).length ≤ n) → (l.flatMap f).length ≤ n * l.length
  | [], _ => by simp
  | x :: l, h => by
    have a := flat_len f n l fun y m => h y (List.mem_cons_of_mem _ m)
    have b := h x (List.mem_cons_self ..)
    rw [List.flatMap_cons, List.length_append, List.length_cons, Nat.mul_add]
    omega
theorem fn_meetings (D : Df K mg "meeting_lists" sMeetings) (FL : Fn P w K mg base CX0 "least_lists" 2 1 (spP DLeast)) (m1 : mg "sorted" = none) (m3 : mg "any" = none) : Fn P w K mg base CX0 "meeting_lists" 3 1 (spP DMeetings) := by
  refine D.pure scMeetings (by rintro ds d ⟨a, b, rfl, _⟩; rfl) rfl (fun _ _ _ _ _ _ us hl => match us, hl with | [_], _ => rfl) fun f cdv A outer s H E G vs ds d Q hr hG hv hD k => ?_
  obtain ⟨lots, AA, rfl, rfl, hK, hsub, hll, hln, hmt⟩ := hD
  obtain ⟨v, rfl, da⟩ := hv.one
  have hu := hr.u65
  refine ⟨_, pss_cons (ps_set (i := 1) scMeetings.nd rfl (.inl rfl) (pe_lst (pa_cons (pe_lst pa_nil) pa_nil)))
    (pss_cons (ps_for PassesOwn.never rfl (pi_list (pv 0)) (pg_name (i := 2) scMeetings.nd rfl (.inr rfl))
      (pss_cons (ps_set (i := 3) scMeetings.nd rfl (.inl rfl) (pe_lst pa_nil))
      (pss_cons (ps_for PassesOwn.never rfl (pi_list (pv 1)) (pg_name (i := 4) scMeetings.nd rfl (.inr rfl))
        (pss_cons (ps_set (i := 5) scMeetings.nd rfl (.inl rfl) (xe_any (K := K) m3 (xe_lc1 (tt := tYes) nMeetings (defScope sMeetings) 6 (pi_list (pv 4)) (by decide +kernel) scMeetings.nd (.inr rfl) (fun _ _ _ _ _ => pts_nil) (fun _ _ _ _ _ => xe_in (K := K) hu (pv 6) (pv 2)))))
        (pss_one (xs_extend (pv 3) (pe_ifExp (pt_val (pv 5)) (pe_lst (pa_cons (pv 4) pa_nil)) (xe_lc1 (tt := tYes) nMeetings (defScope sMeetings) 6 (pi_list (pv 2)) (by decide +kernel) scMeetings.nd (.inr rfl) (fun _ _ _ _ _ => pts_nil)
          (fun _ _ _ _ _ => xe_sorted (K := K) m1 hu (pe_lst (xa_star (K := K) (pv 4) (pa_cons (pv 6) pa_nil))))))))))
      (pss_one (ps_set (i := 1) scMeetings.nd rfl (.inl rfl) (pe_fn FL hr (by rfl) pass0 (pa_cons (pv 3) pa_nil)))))))
    (pss_one (ps_ret (pv 1)))), ?_⟩
  have hsz : sizeLine = 16777216 := sizeLine_eq
  refine tSet_use hG (d := .list (([[]] : List (List PyData)).map .list)) (PR_lst (PRA_one (PR_lst PRA_nil (by simp))) (by simp [hsz])) fun vf G1 H1 e1 df => ?_
  have g1 := (Gr.start hG).ext e1
  refine tFor_use (ds := lots.map .list) g1.gh (WR_list (PR_var (by rfl) (da.up e1.gg))) fun J G2 H2 e2 dw => ?_
  have g2 := g1.ext e2
  refine for_nm dw (fun i σ H3 => ∃ (G3 : Hp) (vf : V) (o1 o2 o3 o4 : Option V), σ = [some v, some vf, o1, o2, o3, o4, none] ∧ Gr G H [] G3 H3 ∧ Same G2 G3 ∧ Dq G3 vf (.list ((meetD (lots.take i)).map .list))) ?_ ?_ ?_ ?_
  · exact ⟨G2, vf, none, none, none, none, rfl, g2, Same.refl _, df.up e2.gg⟩
  · rintro i σ H3 _ ⟨G3, vf, o1, o2, o3, o4, rfl, g3, h3, _⟩
    exact h3.trans g3.gh
  · rintro i dd x σ H3 H4 q1 ⟨G3, vf, o1, o2, o3, o4, rfl, g3, h3, dvf⟩ q2 q3
    obtain ⟨lot, hl, rfl⟩ := map_get q1
    obtain ⟨G4, g4, s4, dx⟩ := g3.yld h3 q3
    have dvf4 := dvf.up s4
    have hlm : lot ∈ lots := List.mem_of_getElem? hl
    have hfold : meetD (lots.take (i + 1)) = meetStep (meetD (lots.take i)) lot := foldl_take meetStep [[]] lots i lot hl
    have hF := meetD_sub (A := AA) (lots.take i) [[]] (fun l m => hsub l (List.mem_of_mem_take m)) 0 (fun l m => by simp at m; subst m; simp)
    have hFn := hmt i
    have hlt : (lots.take i).length ≤ 900 := by rw [List.length_take]; omega
    have hF2 : ∀ l, l ∈ meetD (lots.take i) → l.length ≤ 900 ∧ ∀ t, t ∈ l → t ∈ AA := fun l m => ⟨by have := (hF l m).1; omega, (hF l m).2⟩
    rw [hfold]
    generalize meetD (lots.take i) = F at dvf4 hF2 hFn
    -- some = []
    refine ⟨by simp, fun p hp => ?_⟩
    have g5 : Gr G H [p] G4 (upd H4 p (.lst [])) := g4.new hp
    refine tFor_use (ds := F.map .list) g5.gh (WR_list (PR_var (by rfl) dvf4)) fun J2 G6 H6 e6 dw2 => ?_
    have g6 := g5.ext e6
    refine for_nm dw2 (fun j σ H7 => ∃ (G7 : Hp) (acc : List V) (o3 o4 : Option V), σ = [some v, some vf, some x, some (.ref p), o3, o4, none] ∧ Gr G H [p] G7 H7 ∧ Same G6 G7 ∧ H7 p = some (.lst acc) ∧ DqAll G7 acc (((F.take j).flatMap (meetOne lot)).map .list)) ?_ ?_ ?_ ?_
    · exact ⟨G6, [], o3, o4, rfl, g6, Same.refl _, e6.hh _ _ upd_same, .nil⟩
    · rintro j σ H7 _ ⟨G7, acc, o3, o4, rfl, g7, h7, _⟩
      exact h7.trans g7.gh
    · rintro j dd y σ H7 H8 r1 ⟨G7, acc, o3, o4, rfl, g7, h7, hacc, hd⟩ r2 r3
      obtain ⟨one, hone, rfl⟩ := map_get r1
      obtain ⟨G8, g8, s8, dy⟩ := g7.yld h7 r3
      have hom : one ∈ F := List.mem_of_getElem? hone
      have dx8 : Dq G8 x (.list lot) := ((dx.up e6.gg).up h7).up s8
      have hacc8 := r2 _ _ hacc
      have hd8 := hd.up s8
      have kone : ShL 3 one := fun t ht => (hK.2 t ((hF2 one hom).2 t ht)).2
      have klot : ShL 3 lot := fun t ht => (hK.2 t (hsub lot hlm t ht)).2
      have l1 := (hF2 one hom).1
      have l2 := hll lot hlm
      have fl := flat_take (meetOne lot) F j one hone
      have fn := flat_len (meetOne lot) 1000 (F.take j) (fun z _ => by unfold meetOne; split <;> simp <;> omega)
      have fnj : (F.take j).length ≤ 1000 := by rw [List.length_take]; omega
      rw [fl]
      generalize (F.take j).flatMap (meetOne lot) = M at hd8 fn
      refine tSet_use g8.gh (PR_any (bs := one) (q := fun t => hasD lot t) (PR_map1 (enc := id) (by rw [List.map_id]; exact WR_list (PR_var rfl dy)) (fun _ => rfl)
        (fun G9 t u h9 ht du => PR_op (RR2_in ((kone t ht).shaped (by decide)) (klot.list.shaped (by decide))) (PR_var rfl du) (PR_var rfl (dx8.up h9))) (by omega))) fun vm G9 H9 e9 dm => ?_
      have g9 := g8.ext e9
      have nM : M.length ≤ 1000000 := Nat.le_trans fn (Nat.le_trans (Nat.mul_le_mul_left 1000 fnj) (by decide))
      have nacc : acc.length ≤ 1000000 := by rw [hd8.len, List.length_map]; exact nM
      have pr : PR (tIf (tB (tVar 5)) (tLst (tCons (tVar 4) tNil)) (tLc (iList K (tVar 2)) (gName 6) tYes (tCB (rSortedD K) (tCons (tLst (tStar K (tVar 4) (tCons (tVar 6) tNil))) tNil)) [6])) [some v, some vf, some x, some (.ref p), some y, some vm, none] G9 (.list ((meetOne lot one).map .list)) := by
        refine PR_if (TR_tB (PR_var rfl dm)) (fun hb => ?_) (fun hb => ?_)
        · refine (PR_lst (PRA_one (PR_var rfl (dy.up e9.gg))) (by simp [hsz])).eq ?_
          unfold meetOne
          rw [if_pos hb]
          rfl
        · refine (PR_map1 (bs := lot) (enc := id) (f := fun t => .list (sortD (one ++ [t]))) (by rw [List.map_id]; exact WR_list (PR_var rfl (dx8.up e9.gg))) (fun _ => rfl) (fun G10 t u h10 ht du => ?_) (by omega)).eq ?_
          · refine PR_CB (RR_sorted (Kin.sortOk (hK.sub fun z hz => ?_))) (PRA_one (PR_lst (PRA_star (PR_var rfl ((dy.up e9.gg).up h10)) (PRA_one (PR_var rfl du))) (by simp; omega)))
            rcases List.mem_append.mp hz with hz | hz
            · exact (hF2 one hom).2 z hz
            · simp only [List.mem_singleton, id] at hz
              subst hz
              exact hsub lot hlm _ ht
          · unfold meetOne
            rw [if_neg (by rw [hb]; simp), List.map_map]
            rfl
      refine put_extend g9 (List.mem_cons_self ..) rfl (e9.hh _ _ hacc8) pr ?_ fun vs2 G10 H10 g10 s10 dvs h10 _ => ⟨G10, _, some y, some vm, rfl, g10, ((h7.trans s8).trans e9.gg).trans s10, h10, ?_⟩
      · have : (meetOne lot one).length ≤ 1000 := by unfold meetOne; split <;> simp <;> omega
        rw [List.length_map]
        omega
      · rw [List.map_append]
        exact (hd8.up (e9.gg.trans s10)).app dvs
    · rintro σ H7 ⟨G7, acc, o3, o4, rfl, g7, h7, hacc, hd⟩
      rw [List.length_map, List.take_length] at hd
      have gf := g7.freeze hacc
      have t7 := (g7.tmp (List.mem_cons_self ..) hacc).2
      have hDL : DLeast [.list ((F.flatMap (meetOne lot)).map .list)] (.list ((meetStep F lot).map .list)) := by
        refine ⟨F.flatMap (meetOne lot), rfl, rfl, fun l hl => ?_, ?_⟩
        · obtain ⟨one, ho, hm⟩ := List.mem_flatMap.mp hl
          have l1 := hF2 one ho
          unfold meetOne at hm
          split at hm
          · simp only [List.mem_singleton] at hm
            subst hm
            exact ⟨fun t ht => (hK.2 t (l1.2 t ht)).2, by omega⟩
          · obtain ⟨t, ht, rfl⟩ := List.mem_map.mp hm
            refine ⟨fun z hz => (hK.2 z ?_).2, by rw [sortD_len]; simp; omega⟩
            rcases List.mem_append.mp (sortD_mem.mp hz) with y | y
            · exact l1.2 z y
            · simp only [List.mem_singleton] at y
              subst y
              exact hsub lot hlm _ ht
        · have fn := flat_len (meetOne lot) 1000 F (fun z _ => by have := hll lot hlm; unfold meetOne; split <;> simp <;> omega)
          exact Nat.le_trans fn (Nat.le_trans (Nat.mul_le_mul_left 1000 hFn) (by decide))
      refine tSet_use gf.gh (PR_call (PRA_one (PR_var (by rfl) (.lst upd_same (hd.up t7)))) hDL) fun vn G8 H8 e8 dn => ?_
      exact ⟨G8, vn, some x, some (.ref p), o3, o4, rfl, gf.ext e8, ((((h3.trans s4).trans e6.gg).trans h7).trans t7).trans e8.gg, dn⟩
  · rintro σ H3 ⟨G3, vf, o1, o2, o3, o4, rfl, g3, h3, dvf⟩
    rw [List.length_map, List.take_length] at dvf
    exact tRet_use g3.gh (PR_var (by rfl) dvf) fun v G4 H4 e4 dv => k v G4 H4 (g3.done.trans e4) dv
end
end K48
set_option Elab.async false
set_option linter.all false
set_option maxRecDepth 100000
set_option maxHeartbeats 4000000
/-! PdExc: own error classes whose __init__ keeps its one argument under the name f; raising them -/
namespace PD
open PySem PySem.Spec PyProof.Rows L2
/-- what __init__(self, p): self.f = p promises -/
def spI (C : Addr) (f : Str) : Sp := fun vs H Q _ => ∃ a v, vs = [.ref a, v] ∧ H a = some (exo a C none) ∧ ∀ dx, H dx = none → dx ≠ a → Q .non (upd (upd H dx (exd dx [(f, v)])) a (exo a C (some dx)))
structure Xcl (P : Program) (w : World) (K : PySem.W.Frag) (mg : Str → Option Value) (base : Heap) (C : Addr) (x f : Str) : Prop where
  oex : OexC K C
  gC : mg x = some (.ref C)
  ini : ∃ fI fd ps, PySem.W.findIn K (.ref C) "__init__" = some (some (.ref fI)) ∧ PySem.W.typeIn K (.ref fI) = some (.type "function") ∧ Binds K fd ps [] ∧ FnOk P w K mg base CX0 1 fI fd ps (spI C f)
  xf : XfC K C
  no : PySem.W.findIn K (.ref C) f = some none
/-- the raise's reading -/
def tRaiseX (C : Addr) (f : Str) (W : WX) (te : TE) : TS := fun _ σ H => tMkO C (spI C f) [] (tCons te tNil) σ H fun cls d H' => W cls d σ H'
section
variable {X : Cx} {W : WX} {C : Addr} {x f : Str} {e : Expr} {te : TE} {p1 p2 p3 : Pos} {k : Nat}
theorem ps_raiseX (T : Xcl X.prog X.w X.K X.mg X.base C x f) (hr : Room (k + 2) X.A) (tk : Takes X W) (ha : PE X e te) (hc : X.calm = true := by rfl) (hg : Gl X x := by rfl) (hdb : (x == ("__debug__" : Str)) = false := by decide)
    (he : starEach [e] X.env = (false, eval e X.env) :: starEach [] X.env := by rfl) (hpl : (backTo p2 (starEach [] X.env)).any (·.1) = false := by rfl) :
    PS X (.Raise (some (.Call (.Name x p1) [e] [] p2)) none p3) (tRaiseX C f W te) := by
  obtain ⟨fI, fd, ps, h1, h2, h3, h4⟩ := T.ini
  exact ps_raise (pos := p3) hc tk (pmk_oex (p := p1) (pos := p2) T.oex h1 h2 h4 (hr.mono (by omega)) h3 .nil pass0 hg T.gC (pa_cons ha pa_nil he) hdb he hpl)
end
/-- raise x(name) -/
theorem raise_var {C : Addr} {f : Str} {W : WX} {i : Nat} {D : Ends} {σ : L2.St} {H : Hp} {v : V} (hσ : σ[i]? = some (some v)) (k : ∀ dx H', H dx = none → H' dx = some (.xd [(f, v)]) → Same H H' → W (.ref C) (some dx) σ H') : tRaiseX C f W (tVar i) D σ H := by
  refine ⟨v, hσ, by show 1 ≤ 1000; decide, fun a ha => ⟨a, v, rfl, upd_same, fun dx hdx ne => ⟨rfl, dx, [(f, v)], upd_same, ?_, ?_, ?_⟩⟩⟩
  · rw [upd_ne ne, upd_same]
  · rw [upd_ne ne] at hdx
    exact hdx
  · rw [upd_ne ne] at hdx
    refine k dx _ hdx upd_same fun b o e => ?_
    have nb : b ≠ dx := ne_of_none e hdx
    have na : b ≠ a := ne_of_none e ha
    rw [upd_ne nb, del_ne na, upd_ne na, upd_ne nb, upd_ne na]
    exact e
/-- what is raised, as its catcher knows it -/
def XOut (C : Addr) (f : Str) (v : V) (H : Hp) (E : XK) : Prop := ∀ dx H', H dx = none → H' dx = some (.xd [(f, v)]) → Same H H' → E (.ref C) (some dx) H'
theorem XOut.back {C : Addr} {f : Str} {v : V} {H H1 : Hp} {E : XK} (h : XOut C f v H E) (e : Same H H1) : XOut C f v H1 E := fun dx H' h1 h2 h3 => h dx H' (e.free h1) h2 (e.trans h3)
/-! ### the text of such an __init__ -/
theorem xInit {P : Program} {w : World} {K : PySem.W.Frag} {mg : Str → Option Value} {base : Heap} {C fI : Addr} {fd : FuncData} {q p f : Str} {st : Stmt} (F : Fun K "__init__" q st fI fd) (hst : FnScope [("self" : Str), p] [("self" : Str), p] (defScope st)) (o : OexC K C) (no : PySem.W.findIn K (.ref C) f = some none)
    (hb : ∀ X : Cx, X.N = [("self" : Str), p] → X.env.scope = defScope st → X.K = K → PSs X (defBody st) (tOst K f (tVar 0) (tVar 1))) : FnOk P w K mg base CX0 1 fI fd [("self" : Str), p] (spI C f) := by
  refine F.ok hst (fun vs H Q E h => ?_) (fun cdv A outer s H vs Q E hr h => ?_)
  · obtain ⟨a, v, rfl, _⟩ := h
    rfl
  · obtain ⟨a, v, rfl, ha, k⟩ := h
    refine ⟨_, hb _ rfl rfl rfl, ?_⟩
    exact ⟨v, rfl, .ref a, rfl, a, C, rfl, o, no, .inl ⟨ha, fun dx h1 h2 => k dx h1 h2⟩⟩
/-- a def that may raise, by its body -/
theorem Df.fnX {P : Program} {w : World} {K : PySem.W.Frag} {mg : Str → Option Value} {base : Heap} {x : Str} {k n : Nat} {sp : Sp} {st : Stmt} {N ps : List Str} (D : Df K mg x st) (S : FnScope N ps (defScope st)) (len : ∀ vs H Q E, sp vs H Q E → vs.length = ps.length) (hn : ps.length = n)
    (hb : ∀ (kV doc pm : Value) (an : Option Addr) (cdv ct : Value) (us : List Value), us.length = ps.length → bindArgs (PySem.W.fnOf x x (defArgs st) (defBody st) (defScope st) .none kV doc pm an cdv ct) ⟨us, []⟩ = Pure.pure (ps.zip us))
    (hbody : ∀ (f : Addr) (cdv : Value) (A : Around) (outer : List Env) (s : Shared) (H : Hp) (vs : List V) (Q : VK) (E : XK), Room k (A.deeper (envOfC x (defScope st) s.heap.objs.size f cdv)) → sp vs H Q E →
      ∃ t, PSs (cxOf (L2.CX P w) P w K mg base N x (defScope st) f cdv A outer s H E) (defBody st) t ∧ t { nx := fun _ H' => Q .non H', rt := Q } (start N vs) H) : Fn P w K mg base (L2.CX P w) x (k + 1) n sp := by
  obtain ⟨f, fd, h1, h2⟩ := D.ex
  exact ⟨f, fd, ps, h1, h2.kp, hn, h2.binds hb, h2.okX S len (hbody f)⟩
theorem PV {i : Nat} {σ : L2.St} {G : Hp} {v : V} {d : PyData} (k : Dq G v d) (h : σ[i]? = some (some v) := by rfl) : PR (tVar i) σ G d := PR_var h k
theorem nxt {D : Ends} {σ : L2.St} {H : Hp} (h : D.nx σ H) : tNext D σ H := h
theorem RR2_neB {b c : Bool} : RR2 rNe (.bool b) (.bool c) (.bool (b != c)) := fun x y G H Q hs h1 h2 k => by
  cases h1
  cases h2
  refine ⟨rfl, ?_⟩
  have e : (!decide (V.bl b = V.bl c)) = (b != c) := by rw [dec_bl]; rfl
  rw [e]
  exact k _ G H (.refl hs) (.bl _)
end PD
set_option Elab.async false
set_option linter.all false
set_option maxRecDepth 100000
set_option maxHeartbeats 4000000
/-! PdFresh: data whose lists are all new -/
namespace PD
open PySem PySem.Spec PyProof.Rows L2 RZ
/-- G without the lists that stood in H -/
def cut (H G : Hp) : Hp := fun a => match G a with
  | some (.lst xs) => match H a with
    | none => some (.lst xs)
    | some _ => none
  | o => o
section
variable {H H' G G' : Hp} {a : Addr} {xs : List V} {v : V} {d : PyData}
theorem cut_lst (h : G a = some (.lst xs)) (n : H a = none) : cut H G a = some (.lst xs) := by unfold cut; rw [h, n]
theorem cut_sub : Same (cut H G) G := fun a o e => by
  unfold cut at e
  cases q : G a with
  | none => rw [q] at e; cases e
  | some u =>
    rw [q] at e
    cases u with
    | lst xs =>
      cases r : H a with
      | none => rw [r] at e; exact e
      | some z => rw [r] at e; cases e
    | _ => exact e
theorem cut_old {o : HO} (h : G a = some o) (n : ∀ xs, o ≠ .lst xs) : cut H G a = some o := by
  unfold cut
  rw [h]
  cases o with
  | lst xs => exact absurd rfl (n xs)
  | _ => rfl
theorem cut_new (h : cut H G a = some (.lst xs)) : H a = none := by
  unfold cut at h
  cases q : G a with
  | none => rw [q] at h; cases h
  | some u =>
    rw [q] at h
    cases u with
    | lst ys =>
      cases r : H a with
      | none => rfl
      | some z => rw [r] at h; cases h
    | _ => cases h
theorem cut_mono (e : Same G G') : Same (cut H G) (cut H G') := fun a o h => by
  have g := e _ _ (cut_sub _ _ h)
  cases o with
  | lst xs => exact cut_lst g (cut_new h)
  | _ => exact cut_old g fun _ z => nomatch z
/-- new since later is new since earlier -/
theorem cut_back (e : Same H H') : Same (cut H' G) (cut H G) := fun a o h => by
  have g := cut_sub _ _ h
  cases o with
  | lst xs => exact cut_lst g (e.free (cut_new h))
  | _ => exact cut_old g fun _ z => nomatch z
/-! no list within -/
mutual
def noList : PyData → Bool
  | .list _ => false
  | .tuple ds => noListL ds
  | _ => true
def noListL : List PyData → Bool
  | [] => true
  | d :: ds => noList d && noListL ds
end
mutual
theorem Dq.cut : ∀ (d : PyData) (v : V), Dq G v d → noList d = true → Dq (PD.cut H G) v d
  | .none, _, h, _ => by cases h; exact .non
  | .bool b, _, h, _ => by cases h; exact .bl b
  | .int i, _, h, _ => by cases h; exact .int i
  | .str x, _, h, _ => by cases h; exact .str x
  | .list ds, _, h, n => by simp [noList] at n
  | .tuple ds, _, h, n => by
    cases h with
    | tup h1 h2 => exact .tup (cut_old h1 fun _ z => nomatch z) (DqAll.cut ds _ h2 (by simpa [noList] using n))
  | .dict _, _, h, _ => by
    cases h with
    | dict h1 => exact .dict (cut_old h1 fun _ z => nomatch z)
theorem DqAll.cut : ∀ (ds : List PyData) (vs : List V), DqAll G vs ds → noListL ds = true → DqAll (PD.cut H G) vs ds
  | [], _, h, _ => by cases h; exact .nil
  | d :: ds, _, h, n => by
    rw [noListL, Bool.and_eq_true] at n
    cases h with
    | cons h1 h2 => exact .cons (Dq.cut d _ h1 n.1) (DqAll.cut ds _ h2 n.2)
end
theorem noListL_of {ds : List PyData} (h : ∀ d, d ∈ ds → noList d = true) : noListL ds = true := by
  induction ds with
  | nil => rfl
  | cons d ds ih => rw [noListL, h d (List.mem_cons_self ..), ih fun e m => h e (List.mem_cons_of_mem _ m)]; rfl
/-- a frozen part all of whose lists are new: what is read through it is new too -/
theorem Dq.allNew (h : Dq G v d) (n : ∀ a xs, G a = some (.lst xs) → H a = none) : Dq (PD.cut H G) v d := by
  have e : Same G (PD.cut H G) := fun a o q => by
    cases o with
    | lst xs => exact cut_lst q (n a xs q)
    | _ => exact cut_old q fun _ z => nomatch z
  exact h.up e
end
def PRF (t : TE) (σ : L2.St) (G : Hp) (d : PyData) : Prop := ∀ (H : Hp) (Q : VK), Same G H → (∀ v G' H', Ext G H G' H' → Dq (cut H G') v d → Q v H') → t σ H Q
section
variable {K : PySem.W.Frag} {σ : L2.St} {G : Hp} {wi : TI} {te : TE} {vs : List Nat} {β : Type} {bs : List β} {enc f : β → PyData} {i : Nat} {ds : List PyData} {d : PyData}
theorem PRF.pr (h : PRF te σ G d) : PR te σ G d := fun H Q hs k => h H Q hs fun v G' H' e dv => k v G' H' e (dv.up cut_sub)
theorem PRF.eq {d1 : PyData} (h : PRF te σ G d) (e : d = d1) : PRF te σ G d1 := e ▸ h
/-- a built-in that makes a new list of things -/
theorem PRF_CB {r : List V → Hp → VK → Prop} {t : TA} (hr : ∀ (vs : List V) (G H : Hp) (Q : VK), Same G H → DqAll G vs ds → (∀ v G' H', Ext G H G' H' → Dq (cut H G') v d → Q v H') → r vs H Q) (h : PRA t σ G ds) : PRF (tCB r t) σ G d := fun H Q hs k =>
  h H _ hs fun vs G1 H1 e1 dv => hr vs G1 H1 Q e1.gh dv fun v G2 H2 e2 dv2 => k v G2 H2 (e1.trans e2) (dv2.up (cut_back e1.hh))
theorem RRF_sorted {ds : List PyData} (h : SortOk ds) (hn : noListL ds = true) (vs : List V) (G H : Hp) (Q : VK) (hs : Same G H) (hd : DqAll G vs [.list ds]) (k : ∀ v G' H', Ext G H G' H' → Dq (cut H G') v (.list (sortD ds)) → Q v H') : rSortedD K vs H Q := by
  obtain ⟨x, rfl, hx⟩ := hd.one
  cases hx with
  | @lst a xs _ ha hall =>
    refine ⟨a, xs, ds, rfl, SqL.of (hs _ _ ha), DqAll.dp _ _ (hall.up hs) (noDictL_of fun d hd => (h.2 d hd).2.2), h.1, fun d hd => ⟨(h.2 d hd).1, (h.2 d hd).2.1⟩, fun zs p hp hm hH => ?_⟩
    have q := dqAll_of (G := G) (zs := zs) fun b hb => dqAll_zip hall b (hp.mem_iff.mp hb)
    rw [hm] at q
    refine k _ _ _ (.new hs hH) (.lst (cut_lst upd_same hH) ((DqAll.cut (H := H) _ _ (q.up (same_new (o := .lst (zs.map (·.1))) (hs.free hH))) (noListL_of fun d hd => ?_))))
    have hd := sortD_mem.mp hd
    have : ∀ (ds : List PyData), noListL ds = true → ∀ d ∈ ds, noList d = true := fun ds => by
      induction ds with
      | nil => intro _ d hd; cases hd
      | cons e es ih =>
        intro hh d hd
        rw [noListL, Bool.and_eq_true] at hh
        rcases List.mem_cons.mp hd with rfl | hd
        · exact hh.1
        · exact ih hh.2 d hd
    exact this ds hn d hd
theorem PRF_map1 (hw : WR wi σ G (bs.map enc)) (hset : ∀ v, wipe ((wipe σ vs).set i (some v)) vs = wipe σ vs)
    (hstep : ∀ G1 b v, Same G G1 → b ∈ bs → Dq G1 v (enc b) → PRF te ((wipe σ vs).set i (some v)) G1 (f b)) (hlen : bs.length ≤ sizeLine) : PRF (tLc wi (gName i) tYes te vs) σ G (.list (bs.map f)) := fun H Q hs k => by
  refine hw H _ hs fun J G1 H1 e1 dw D hD => ?_
  have g0 : Gr G1 H1 [D] G1 (upd H1 D (.lst [])) := (Gr.start e1.gh).new hD
  refine lc_it dw.w (fun j H2 => ∃ (G2 : Hp) (acc : List V), Gr G1 H1 [D] G2 H2 ∧ H2 D = some (.lst acc) ∧ DqAll (cut H G2) acc ((bs.take j).map f)) ?_ ?_ ?_ ?_
  · exact ⟨G1, [], g0, upd_same, .nil⟩
  · rintro j H2 _ ⟨G2, acc, g, _⟩
    exact g.gg.trans g.gh
  · rintro j x H2 H3 hj ⟨G2, acc, g, hacc, da⟩ ⟨d, b1, b2, b3⟩
    obtain ⟨G3, g3, s3, dx⟩ := g.yld g.gg b3
    rw [List.getElem?_map] at b1
    obtain ⟨b, c1, rfl⟩ : ∃ b, bs[j]? = some b ∧ enc b = d := by
      cases q : bs[j]? with
      | none => rw [q] at b1; simp at b1
      | some b => rw [q] at b1; exact ⟨b, rfl, Option.some.inj b1⟩
    have etk : bs.take (j + 1) = bs.take j ++ [b] := by rw [List.take_add_one, c1]; rfl
    refine ⟨hset x, TR_yes (G := G3) H3 _ g3.gh fun H3' e3 => iteT (hstep G3 b x ((e1.gg.trans g.gg).trans s3) (List.mem_of_getElem? c1) dx H3' _ (g3.gh.trans e3) fun v G4 H4 e4 dv => ?_)⟩
    have g4 := (g3.same e3).ext e4
    have a4 : H4 D = some (.lst acc) := e4.hh _ _ (e3 _ _ (b2 _ _ hacc))
    have dl := da.len
    rw [List.length_map, List.length_take] at dl
    refine ⟨acc, a4, by have : j < bs.length := (List.getElem?_eq_some_iff.mp c1).1; omega, G4, acc ++ [v], g4.put (List.mem_cons_self ..), upd_same, ?_⟩
    rw [etk, List.map_append]
    have sH : Same H H3' := e1.hh.trans ((g.hh.trans b2).trans e3)
    exact (da.up (cut_mono (s3.trans e4.gg))).snoc (dv.up (cut_back sH))
  · rintro H2 ⟨G2, acc, g, hacc, da⟩
    rw [List.length_map, List.take_length] at da
    have gf := g.freeze hacc
    have hD0 : H D = none := e1.hh.free hD
    exact k (.ref D) _ H2 (e1.trans gf.done) (.lst (cut_lst upd_same hD0) (da.up (cut_mono (g.tmp (List.mem_cons_self ..) hacc).2)))
theorem PRF_var {j : Nat} {v : V} (h : σ[j]? = some (some v)) (k : Dq G v d) (n : noList d = true) : PRF (tVar j) σ G d := fun H Q hs q => ⟨v, h, q v G H (.refl hs) (Dq.cut d v k n)⟩
variable {tt : TT} {p : β → Bool}
theorem PRF_lc1 (hw : WR wi σ G (bs.map enc)) (hset : ∀ v, wipe ((wipe σ vs).set i (some v)) vs = wipe σ vs)
    (hstep : ∀ G1 b v, Same G G1 → b ∈ bs → Dq G1 v (enc b) → TR tt ((wipe σ vs).set i (some v)) G1 (p b) ∧ (p b = true → PRF te ((wipe σ vs).set i (some v)) G1 (f b))) (hlen : bs.length ≤ sizeLine) : PRF (tLc wi (gName i) tt te vs) σ G (.list ((bs.filter p).map f)) := fun H Q hs k => by
  refine hw H _ hs fun J G1 H1 e1 dw D hD => ?_
  have g0 : Gr G1 H1 [D] G1 (upd H1 D (.lst [])) := (Gr.start e1.gh).new hD
  refine lc_it dw.w (fun j H2 => ∃ (G2 : Hp) (acc : List V), Gr G1 H1 [D] G2 H2 ∧ H2 D = some (.lst acc) ∧ acc.length ≤ j ∧ DqAll (cut H G2) acc (((bs.take j).filter p).map f)) ?_ ?_ ?_ ?_
  · exact ⟨G1, [], g0, upd_same, Nat.le_refl _, .nil⟩
  · rintro j H2 _ ⟨G2, acc, g, _⟩
    exact g.gg.trans g.gh
  · rintro j x H2 H3 hj ⟨G2, acc, g, hacc, hal, da⟩ ⟨d, b1, b2, b3⟩
    obtain ⟨G3, g3, s3, dx⟩ := g.yld g.gg b3
    rw [List.getElem?_map] at b1
    obtain ⟨b, c1, rfl⟩ : ∃ b, bs[j]? = some b ∧ enc b = d := by
      cases q : bs[j]? with
      | none => rw [q] at b1; simp at b1
      | some b => rw [q] at b1; exact ⟨b, rfl, Option.some.inj b1⟩
    have etk : bs.take (j + 1) = bs.take j ++ [b] := by rw [List.take_add_one, c1]; rfl
    have jb : j < bs.length := (List.getElem?_eq_some_iff.mp c1).1
    obtain ⟨ht, he⟩ := hstep G3 b x ((e1.gg.trans g.gg).trans s3) (List.mem_of_getElem? c1) dx
    refine ⟨hset x, ht H3 _ g3.gh fun H3' e3 => ?_⟩
    have a3 : H3' D = some (.lst acc) := e3 _ _ (b2 _ _ hacc)
    have sH : Same H H3' := e1.hh.trans ((g.hh.trans b2).trans e3)
    cases hp : p b with
    | false =>
      refine iteF ⟨G3, acc, g3.same e3, a3, by omega, ?_⟩
      have : (bs.take (j + 1)).filter p = (bs.take j).filter p := by rw [etk, List.filter_append]; simp [hp]
      rw [this]
      exact da.up (cut_mono s3)
    | true =>
      refine iteT ((he hp) H3' _ (g3.gh.trans e3) fun v G4 H4 e4 dv => ?_)
      have g4 := (g3.same e3).ext e4
      have a4 : H4 D = some (.lst acc) := e4.hh _ _ a3
      refine ⟨acc, a4, by omega, G4, acc ++ [v], g4.put (List.mem_cons_self ..), upd_same, by simp; omega, ?_⟩
      have : ((bs.take (j + 1)).filter p).map f = ((bs.take j).filter p).map f ++ [f b] := by rw [etk, List.filter_append]; simp [hp]
      rw [this]
      exact (da.up (cut_mono (s3.trans e4.gg))).snoc (dv.up (cut_back sH))
  · rintro H2 ⟨G2, acc, g, hacc, _, da⟩
    rw [List.length_map, List.take_length] at da
    have gf := g.freeze hacc
    have hD0 : H D = none := e1.hh.free hD
    exact k (.ref D) _ H2 (e1.trans gf.done) (.lst (cut_lst upd_same hD0) (da.up (cut_mono (g.tmp (List.mem_cons_self ..) hacc).2)))
end
end PD
set_option Elab.async false
set_option linter.all false
set_option maxRecDepth 100000
set_option maxHeartbeats 4000000
/-! K48c: BadKeys, BadLots; checked_things, checked_lots, meeting -/
namespace K48
open PySem PySem.Spec PyProof.Rows L2 PD StX RZ
abbrev iKeys : Stmt := inClass (top 5) 0
abbrev iLots : Stmt := inClass (top 7) 0
section
variable {P : Program} {w : World} {K : PySem.W.Frag} {mg : Str → Option Value} {base : Heap}
theorem ini_keys {C fI : Addr} {fd : FuncData} (F : Fun K "__init__" "BadKeys.__init__" iKeys fI fd) (o : OexC K C) (no : PySem.W.findIn K (.ref C) "keyring" = some none) : FnOk P w K mg base CX0 1 fI fd ["self", "keyring"] (spI C "keyring") :=
  xInit F ⟨rfl, rfl, rfl, by decide +kernel, rfl, by decide +kernel, by decide +kernel⟩ o no fun X hN hS hK => by
    subst hK
    exact pss_one (ps_ost (pe_var (i := 0) (x := "self") (by rw [hN]; rfl) (by rw [hS]; exact .inl rfl)) (pe_var (i := 1) (x := "keyring") (by rw [hN]; rfl) (by rw [hS]; exact .inl rfl)))
theorem ini_lots {C fI : Addr} {fd : FuncData} (F : Fun K "__init__" "BadLots.__init__" iLots fI fd) (o : OexC K C) (no : PySem.W.findIn K (.ref C) "lots" = some none) : FnOk P w K mg base CX0 1 fI fd ["self", "lots"] (spI C "lots") :=
  xInit F ⟨rfl, rfl, rfl, by decide +kernel, rfl, by decide +kernel, by decide +kernel⟩ o no fun X hN hS hK => by
    subst hK
    exact pss_one (ps_ost (pe_var (i := 0) (x := "self") (by rw [hN]; rfl) (by rw [hS]; exact .inl rfl)) (pe_var (i := 1) (x := "lots") (by rw [hN]; rfl) (by rw [hS]; exact .inl rfl)))
/-! ### checked_things -/
def keysD (d : PyData) : List PyData := if isSeq d = true then (itemsD d).map keptD else [.none]
def badMix (fs : List PyData) : Bool := fs.any fun o => isS o != isS (fs.headD .none)
def badK (d : PyData) : Bool := hasD (keysD d) .none || !unlikeD (keysD d) || badMix (keysD d)
def thingsD (d : PyData) : List PyData := sortD (keysD d)
def spThings (CK : Addr) : Sp := fun vs H Q E => ∃ G v d, vs = [v] ∧ Same G H ∧ Dq G v d ∧ ShL 10 (keysD d) ∧ (keysD d).length ≤ 1000 ∧ (itemsD d).length ≤ 1000 ∧ (∀ o, o ∈ itemsD d → (itemsD o).length ≤ 1000) ∧
  (badK d = false → Kin (keysD d) ∧ ∀ v' G' H', Ext G H G' H' → Dq G' v' (.list (thingsD d)) → Q v' H') ∧ (badK d = true → XOut CK "keyring" v H E)
abbrev nThings : List Str := ["keys", "found", "one"]
theorem scThings : FnScope nThings ["keys"] (defScope sThings) := ⟨rfl, rfl, rfl, by decide +kernel, rfl, by decide +kernel, by decide +kernel⟩
def DIsList (ds : List PyData) (d : PyData) : Prop := ∃ a, ds = [a] ∧ d = .bool (isSeq a)
def DUnlike (ds : List PyData) (d : PyData) : Prop := ∃ xs, ds = [.list xs] ∧ d = .bool (unlikeD xs) ∧ ShL 10 xs ∧ xs.length ≤ 1000
def DKept (ds : List PyData) (d : PyData) : Prop := ∃ a, ds = [a] ∧ d = keptD a ∧ (itemsD a).length ≤ 1000
theorem sh_none {n : Nat} : Sh n .none := ⟨rfl, by simp [PyData.depth]⟩
theorem fn_things {CK : Addr} (D : Df K mg "checked_things" sThings) (T : Xcl P w K mg base CK "BadKeys" "keyring") (FI : Fn P w K mg base CX0 "is_list" 1 1 (spP DIsList)) (FU : Fn P w K mg base CX0 "are_unlike" 1 1 (spP DUnlike)) (FK : Fn P w K mg base CX0 "kept_thing" 2 1 (spP DKept))
    (m1 : mg "any" = none) (m2 : mg "isinstance" = none) (m3 : mg "str" = none) (m4 : mg "sorted" = none) : Fn P w K mg base (L2.CX P w) "checked_things" 5 1 (spThings CK) := by
  refine D.fnX scThings (by rintro vs H Q E ⟨G, v, d, rfl, _⟩; rfl) rfl (fun _ _ _ _ _ _ us hl => match us, hl with | [_], _ => rfl) fun f cdv A outer s H vs Q E hr hsp => ?_
  obtain ⟨G, v, d, rfl, hG, dv, hsh, hlen, hlen2, hit, hgood, hbad⟩ := hsp
  have hu := hr.u65
  refine ⟨_, pss_cons (ps_set (i := 1) scThings.nd rfl (.inr rfl) (pe_ifExp (pt_val (pe_fn FI (hr.mono (by decide)) (by rfl) pass0 (pa_cons (pv 0) pa_nil)))
      (xe_lc1 (tt := tYes) nThings (defScope sThings) 2 (pi_seq (pv 0)) (by decide +kernel) scThings.nd (.inr rfl) (fun _ _ _ _ _ => pts_nil) (fun _ _ _ _ _ => pe_fn FK (hr.mono (by decide)) (by rfl) pass0 (pa_cons (pv 2) pa_nil)))
      (pe_lst (pa_cons pe_non pa_nil))))
    (pss_cons (ps_if (pw_or (xt_in (K := K) hu pe_non (pv 1)) (pw_or1 (pt_not (pt_val (pe_fn FU (hr.mono (by decide)) (by rfl) pass0 (pa_cons (pv 1) pa_nil)))))).pt (pss_one (ps_raiseX (k := 1) T (hr.mono (by decide)) (takes_of rfl rfl rfl rfl) (pv 0))) pss_nil)
    (pss_cons (ps_if (pt_val (xe_any (K := K) m1 (xe_lc1 (tt := tYes) nThings (defScope sThings) 2 (pi_list (pv 1)) (by decide +kernel) scThings.nd (.inr rfl) (fun _ _ _ _ _ => pts_nil)
      (fun _ _ _ _ _ => pe_cmpR op_ne (xe_isi (K := K) (U := "str") m2 m3 (by decide +kernel) (pv 2)) (xe_isi (K := K) (U := "str") m2 m3 (by decide +kernel) (xe_ixL (K := K) (pv 1) pe_int)) (nomark _))))) (pss_one (ps_raiseX (k := 1) T (hr.mono (by decide)) (takes_of rfl rfl rfl rfl) (pv 0))) pss_nil)
    (pss_one (ps_ret (xe_sorted (K := K) m4 hu (pv 1)))))), ?_⟩
  have hsz : sizeLine = 16777216 := sizeLine_eq
  refine tSet_use hG (d := .list (keysD d)) (PR_if (TR_tB (PR_call (PRA_one (PV dv)) ⟨d, rfl, rfl⟩)) (fun hb => ?_) (fun hb => ?_)) fun vf G1 H1 e1 df => ?_
  · have hw : WR (iSeq K (tVar 0)) [some v, none, none] G ((itemsD d).map id) := by
      rw [List.map_id]
      cases d with
      | list ds => exact WR_seqL (PV dv)
      | tuple ds => exact WR_seqT (PV dv)
      | _ => simp [isSeq] at hb
    refine (PR_map1 (bs := itemsD d) (enc := id) (f := keptD) hw (fun _ => rfl) (fun G1 b u h1 hb du => PR_call (PRA_one (PV du)) ⟨b, rfl, rfl, hit b hb⟩) (by omega)).eq ?_
    unfold keysD
    rw [if_pos hb]
  · refine (PR_lst (PRA_one PR_non) (by simp [hsz])).eq ?_
    unfold keysD
    rw [if_neg (by rw [hb]; simp)]
  have hx : ∀ {H2 : Hp}, Same H H2 → (badK d = true) → tRaiseX CK "keyring" (fun cls dd _ H => E cls dd H) (tVar 0) { nx := fun _ H' => Q .non H', rt := Q } [some v, some vf, none] H2 := fun {H2} e hb => raise_var rfl fun dx H' a b c => (hbad hb).back e dx H' a b c
  refine tIf_use (b := hasD (keysD d) .none || !unlikeD (keysD d)) (TR_or (TR_test (PR_op (RR2_in (sh_none.shaped (n := 0) (by decide)) (hsh.list.shaped (by decide))) PR_non (PV df))) fun _ => TR_not (TR_tB (PR_call (PRA_one (PV df)) ⟨keysD d, rfl, rfl, hsh, hlen⟩))) e1.gh fun H2 e2 => ?_
  cases h1 : hasD (keysD d) .none || !unlikeD (keysD d) with
  | true => exact iteT (hx (e1.hh.trans e2) (by unfold badK; rw [h1]; rfl))
  | false =>
    refine iteF (nxt ?_)
    have hw2 : WR (iList K (tVar 1)) [some v, some vf, none] G1 ((keysD d).map id) := by rw [List.map_id]; exact WR_list (PV df)
    refine tIf_use (b := badMix (keysD d)) (TR_tB (PR_any (bs := keysD d) (q := fun o => isS o != isS ((keysD d).headD .none)) (PR_map1 (enc := id) hw2 (fun _ => rfl) (fun G3 b u h3 hb du => ?_) (by omega)))) (e1.gh.trans e2) fun H3 e3 => ?_
    · have h0 : (keysD d)[0]? = some ((keysD d).headD .none) := by
        cases hk : keysD d with
        | nil => rw [hk] at hb; simp at hb
        | cons a r => rfl
      exact PR_op RR2_neB (PR_isi (PV du) (kitS b)) (PR_isi (PR_op (RR2_ixL (j := 0) h0) (PV (df.up h3)) PR_int) (kitS _))
    · cases h2 : badMix (keysD d) with
      | true => exact iteT (hx ((e1.hh.trans e2).trans e3) (by unfold badK; rw [h1, h2]; rfl))
      | false =>
        refine iteF (nxt ?_)
        obtain ⟨hK, kq⟩ := hgood (by unfold badK; rw [h1, h2]; rfl)
        exact tRet_use ((e1.gh.trans e2).trans e3) (PR_CB (RR_sorted hK.sortOk) (PRA_one (PV df))) fun v' G' H' e dv' => kq v' G' H' ((e1.trans (.more e1.gh (e2.trans e3))).trans e) dv'
/-! ### checked_lots -/
def lotOk (ts l : List PyData) : Bool := unlikeD l && l.all fun o => hasD ts o
def badL (ts : List PyData) (d : PyData) : Bool := !isSeq d || !((itemsD d).map keysD).all (lotOk ts)
def lotD (d : PyData) : List PyData := sortD (keysD d)
def spLots (CL : Addr) : Sp := fun vs H Q E => ∃ G vt v ts d, vs = [vt, v] ∧ Same G H ∧ Dq G vt (.list ts) ∧ Dq G v d ∧ ShL 10 ts ∧ (itemsD d).length ≤ 1000 ∧
  (∀ l, l ∈ itemsD d → ShL 10 (keysD l) ∧ (keysD l).length ≤ 1000 ∧ (itemsD l).length ≤ 1000 ∧ ∀ o, o ∈ itemsD l → (itemsD o).length ≤ 1000) ∧
  (badL ts d = false → (∀ l, l ∈ itemsD d → Kin (keysD l)) ∧ ∀ v' G' H', Ext G H G' H' → Dq (cut H G') v' (.list (((itemsD d).map lotD).map .list)) → Q v' H') ∧ (badL ts d = true → XOut CL "lots" v H E)
abbrev nLots : List Str := ["things", "lots", "found", "lot", "one"]
theorem scLots : FnScope nLots ["things", "lots"] (defScope sLots) := ⟨rfl, rfl, rfl, by decide +kernel, rfl, by decide +kernel, by decide +kernel⟩
abbrev lotsC1 : Scope := compSc (valOf (stAt (defBody sLots) 1))
abbrev lotsC2 : Scope := compSc (subE 1 (subE 0 (valOf (stAt (defBody sLots) 2))))
theorem noList_kept (d : PyData) : noList (keptD d) = true := by
  have all : ∀ ds : List PyData, ds.all isS = true → noListL ds = true := fun ds h => noListL_of fun x hx => by
    have := List.all_eq_true.mp h x hx
    cases x <;> simp [isS] at this ⊢ <;> rfl
  cases d with
  | list ds =>
    simp only [keptD]
    split
    · rename_i h; simp only [noList]; exact all ds h
    · rfl
  | tuple ds =>
    simp only [keptD]
    split
    · rename_i h; simp only [noList]; exact all ds h
    · rfl
  | _ => rfl
theorem noList_keys (d : PyData) : noListL (keysD d) = true := noListL_of fun x hx => by
  unfold keysD at hx
  split at hx
  · obtain ⟨o, _, rfl⟩ := List.mem_map.mp hx
    exact noList_kept o
  · simp at hx; subst hx; rfl
theorem fn_lots {CL : Addr} (D : Df K mg "checked_lots" sLots) (T : Xcl P w K mg base CL "BadLots" "lots") (FI : Fn P w K mg base CX0 "is_list" 1 1 (spP DIsList)) (FU : Fn P w K mg base CX0 "are_unlike" 1 1 (spP DUnlike)) (FK : Fn P w K mg base CX0 "kept_thing" 2 1 (spP DKept))
    (m1 : mg "all" = none) (m4 : mg "sorted" = none) : Fn P w K mg base (L2.CX P w) "checked_lots" 5 2 (spLots CL) := by
  refine D.fnX scLots (by rintro vs H Q E ⟨G, vt, v, ts, d, rfl, _⟩; rfl) rfl (fun _ _ _ _ _ _ us hl => match us, hl with | [_, _], _ => rfl) fun f cdv A outer s H vs Q E hr hsp => ?_
  obtain ⟨G, vt, v, ts, d, rfl, hG, dt, dv, hts, hlen, hit, hgood, hbad⟩ := hsp
  have hu := hr.u65
  have hr1 := hr.mono (show 1 ≤ 4 by decide)
  have hr2 := hr.mono (show 2 ≤ 4 by decide)
  refine ⟨_, pss_cons (ps_if (pt_not (pt_val (pe_fn FI hr1 (by rfl) pass0 (pa_cons (pv 1) pa_nil)))) (pss_one (ps_raiseX (k := 1) T (hr.mono (by decide)) (takes_of rfl rfl rfl rfl) (pv 1))) pss_nil)
    (pss_cons (xs_setLc1 (tt := tYes) nLots (defScope sLots) 2 3 (pi_seq (pv 1)) (by decide +kernel) scLots.nd (.inr rfl) (fun _ _ _ _ _ => pts_nil)
      (fun _ _ _ _ _ => pe_ifExp (pt_val (pe_fn FI hr1 (by rfl) pass0 (pa_cons (pv 3) pa_nil)))
        (xe_lc1 (tt := tYes) nLots (relS lotsC1 (defScope sLots)) 4 (xi_seq (K := K) (pv 3)) (by decide +kernel) scLots.nd (.inr rfl) (fun _ _ _ _ _ => pts_nil) (fun _ _ _ _ _ => pe_fn FK hr2 (by rfl) pass0 (pa_cons (pv 4) pa_nil)))
        (pe_lst (pa_cons pe_non pa_nil))) rfl rfl rfl (by decide +kernel))
    (pss_cons (ps_if (pt_not (pt_val (xe_all (K := K) m1 (xe_lc1 (tt := tYes) nLots (defScope sLots) 3 (pi_list (pv 2)) (by decide +kernel) scLots.nd (.inr rfl) (fun _ _ _ _ _ => pts_nil)
      (fun _ _ _ _ _ => pe_and (pe_fn FU hr1 (by rfl) pass0 (pa_cons (pv 3) pa_nil)) (pe_one (xe_all (K := K) m1
        (xe_lc1 (tt := tYes) nLots (relS lotsC2 (defScope sLots)) 4 (xi_list (K := K) (pv 3)) (by decide +kernel) scLots.nd (.inr rfl) (fun _ _ _ _ _ => pts_nil) (fun _ _ _ _ _ => xe_in (K := K) hu (pv 4) (pv 0))))))))))
        (pss_one (ps_raiseX (k := 1) T (hr.mono (by decide)) (takes_of rfl rfl rfl rfl) (pv 1))) pss_nil)
    (pss_one (ps_ret (xe_lc1 (tt := tYes) nLots (defScope sLots) 3 (pi_list (pv 2)) (by decide +kernel) scLots.nd (.inr rfl) (fun _ _ _ _ _ => pts_nil) (fun _ _ _ _ _ => xe_sorted (K := K) m4 hu (pv 3))))))), ?_⟩
  have hsz : sizeLine = 16777216 := sizeLine_eq
  have hx : ∀ {H2 : Hp} {o : Option V}, Same H H2 → badL ts d = true → tRaiseX CL "lots" (fun cls dd _ H => E cls dd H) (tVar 1) { nx := fun _ H' => Q .non H', rt := Q } [some vt, some v, o, none, none] H2 := fun {H2 o} e hb => raise_var rfl fun dx H' a b c => (hbad hb).back e dx H' a b c
  refine tIf_use (b := !isSeq d) (TR_not (TR_tB (PR_call (PRA_one (PV dv)) ⟨d, rfl, rfl⟩))) hG fun H1 e1 => ?_
  cases hb : isSeq d with
  | false => exact iteT (hx e1 (by unfold badL; rw [hb]; rfl))
  | true =>
    refine iteF (nxt ?_)
    have seqW : ∀ {σ : L2.St} {i : Nat} {u : V} {o : PyData} {G2 : Hp}, σ[i]? = some (some u) → Dq G2 u o → isSeq o = true → WR (iSeq K (tVar i)) σ G2 ((itemsD o).map id) := fun {σ i u o G2} hσ du hs => by
      rw [List.map_id]
      cases o with
      | list ds => exact WR_seqL (PR_var hσ du)
      | tuple ds => exact WR_seqT (PR_var hσ du)
      | _ => simp [isSeq] at hs
    have hw := seqW (σ := [some vt, some v, none, none, none]) (i := 1) rfl dv hb
    refine tSet_use (G := G) (d := .list ((itemsD d).map fun l => .list (keysD l))) (hG.trans e1) (PR_map1 (enc := id) hw (fun _ => rfl) (fun G1 l u h1 hl du => ?_) (by omega)) fun vf G1 H2 e2 df => ?_
    · obtain ⟨_, h3, h4, h5⟩ := hit l hl
      refine PR_if (TR_tB (PR_call (PRA_one (PV du)) ⟨l, rfl, rfl⟩)) (fun hs => ?_) (fun hs => ?_)
      · refine (PR_map1 (bs := itemsD l) (enc := id) (f := keptD) (seqW rfl du hs) (fun _ => rfl) (fun G2 o u2 h2 ho du2 => PR_call (PRA_one (PV du2)) ⟨o, rfl, rfl, h5 o ho⟩) (by omega)).eq ?_
        unfold keysD
        rw [if_pos hs]
      · refine (PR_lst (PRA_one PR_non) (by simp [hsz])).eq ?_
        unfold keysD
        rw [if_neg (by rw [hs]; simp)]
    have df' : Dq G1 vf (.list (((itemsD d).map keysD).map .list)) := by rw [List.map_map]; exact df
    have mem : ∀ l, l ∈ (itemsD d).map keysD → ShL 10 l ∧ l.length ≤ 1000 := fun l hl => by
      obtain ⟨o, ho, rfl⟩ := List.mem_map.mp hl
      exact ⟨(hit o ho).1, (hit o ho).2.1⟩
    have hw2 : WR (iList K (tVar 2)) [some vt, some v, some vf, none, none] G1 (((itemsD d).map keysD).map PyData.list) := WR_list (PV df')
    have e12 := e1.trans e2.hh
    refine tIf_use (b := !((itemsD d).map keysD).all (lotOk ts)) (TR_not (TR_tB (PR_all (bs := (itemsD d).map keysD) (q := lotOk ts) (PR_map1 (enc := PyData.list) hw2 (fun _ => rfl) (fun G2 l u h2 hl du => ?_) (by rw [List.length_map]; omega))))) e2.gh fun H3 e3 => ?_
    · have hw3 : WR (iList K (tVar 3)) [some vt, some v, some vf, some u, none] G2 (l.map id) := by rw [List.map_id]; exact WR_list (PV du)
      refine PR_andV (PR_call (PRA_one (PV du)) ⟨l, rfl, rfl, mem l hl⟩) fun _ => PR_all (bs := l) (q := fun o => hasD ts o) (PR_map1 (enc := id) hw3 (fun _ => rfl) (fun G3 o u3 h3 ho du3 => ?_) (by have := (mem l hl).2; omega))
      exact PR_op (RR2_in (((mem l hl).1 o ho).shaped (by decide)) (hts.list.shaped (by decide))) (PV du3) (PV (((dt.up e2.gg).up h2).up h3))
    · cases ha : ((itemsD d).map keysD).all (lotOk ts) with
      | false => exact iteT (hx (e12.trans e3) (by unfold badL; rw [ha]; simp))
      | true =>
        refine iteF (nxt ?_)
        obtain ⟨hK, kq⟩ := hgood (by unfold badL; rw [hb, ha]; rfl)
        have eM : ((itemsD d).map lotD).map PyData.list = ((itemsD d).map keysD).map fun l => .list (sortD l) := by rw [List.map_map, List.map_map]; rfl
        have sH : Same H H3 := e12.trans e3
        refine PRF_map1 (bs := (itemsD d).map keysD) (f := fun l => .list (sortD l)) (enc := PyData.list) hw2 (fun _ => rfl) (fun G2 l u h2 hl du => ?_) (by rw [List.length_map]; omega) H3 _ (e2.gh.trans e3) fun v' G' H' e dv' => kq v' G' H' (((Ext.more hG e1).trans (e2.trans (.more e2.gh e3))).trans e) (by rw [eM]; exact dv'.up (cut_back sH))
        obtain ⟨o, ho, rfl⟩ := List.mem_map.mp hl
        exact PRF_CB (RRF_sorted (hK o ho).sortOk (noList_keys o)) (PRA_one (PV du))
end
end K48
set_option Elab.async false
set_option linter.all false
set_option maxRecDepth 100000
set_option maxHeartbeats 4000000
/-! PdClo: functions as values: the cells that they captured stand tracked while others run -/
namespace PD
open PySem PySem.Spec PyProof.Rows L2
/-- a cell, as it is -/
def CelO (c : Addr) (o : Obj) : HO := .ext fun h => h.get? c = some o
/-- T's entries at cs, over H -/
def ovr (cs : List Addr) (T H : Hp) : Hp := fun a => if a ∈ cs then T a else H a
/-- what is wanted behind a call that saw no cells: they are put back -/
abbrev putQ (cs : List Addr) (H : Hp) (Q : VK) : VK := fun v H3 => (∀ a ∈ cs, H3 a = none) → Q v (ovr cs H H3)
abbrev putE (cs : List Addr) (H : Hp) (E : XK) : XK := fun cls d H3 => (∀ a ∈ cs, H3 a = none) → E cls d (ovr cs H H3)
def rm (cs : List Addr) (H : Hp) : Hp := ovr cs (fun _ => none) H
section
variable {cs : List Addr} {T H H' : Hp} {a : Addr} {P : Program} {w : World} {h : Heap} {o : HO}
theorem ovr_in (h : a ∈ cs) : ovr cs T H a = T a := if_pos h
theorem ovr_off (h : a ∉ cs) : ovr cs T H a = H a := if_neg h
theorem rm_in (h : a ∈ cs) : rm cs H a = none := if_pos h
theorem rm_off (h : a ∉ cs) : rm cs H a = H a := if_neg h
theorem rm_some (h : rm cs H a = some o) : a ∉ cs ∧ H a = some o := by
  by_cases q : a ∈ cs
  · rw [rm_in q] at h; cases h
  · rw [rm_off q] at h; exact ⟨q, h⟩
def Celled (cs : List Addr) (H : Hp) : Prop := ∀ c ∈ cs, ∃ o, H c = some (CelO c o)
theorem Celled.off (x : Celled cs H) {b : Addr} {u : HO} (e : H b = some u) (n : ∀ φ, u ≠ .ext φ) : b ∉ cs := fun z => by
  obtain ⟨ob, q⟩ := x b z
  rw [e] at q
  exact n _ (Option.some.inj q)
theorem cel_ok {ob : Obj} {H : Hp} (e : h.get? a = some ob) : ObjOk P w H h a (CelO a ob) := ⟨e, ⟨ob, e⟩, fun _ _ x st => st _ x⟩
theorem hok_rm (x : HOk P w H h) (c : Celled cs H) : HOk P w (rm cs H) h := fun b u e => by
  obtain ⟨nb, e⟩ := rm_some e
  refine (x b u e).stay (fun _ _ _ q => q) (fun d q => ?_) fun d xs q => ?_
  · rw [rm_off (c.off q fun _ z => by cases z)]; exact q
  · rw [rm_off (c.off q fun _ z => by cases z)]; exact q
theorem hok_ovr (x : HOk P w H h) (hn : ∀ c ∈ cs, H c = none) (c : ∀ c ∈ cs, ∃ ob, T c = some (CelO c ob) ∧ h.get? c = some ob) : HOk P w (ovr cs T H) h := fun b u e => by
  by_cases q : b ∈ cs
  · obtain ⟨ob, e1, e2⟩ := c b q
    rw [ovr_in q, e1] at e
    cases e
    exact cel_ok e2
  · rw [ovr_off q] at e
    refine (x b u e).stay (fun _ _ _ q => q) (fun d q => ?_) fun d xs q => ?_
    · rw [ovr_off fun z => by rw [hn d z] at q; cases q]; exact q
    · rw [ovr_off fun z => by rw [hn d z] at q; cases q]; exact q
end
/-! ### a call, the cells tracked while it runs -/
section
variable {cs : List Addr} {T H H' : Hp} {P : Program} {w : World} {K : PySem.W.Frag} {mg : Str → Option Value} {base : Heap} {A : Around} {outer : List Env} {s s' : Shared} {Q : VK} {u : Value}
/-- what a frame must tell of its cells -/
structure CellsIn (cs : List Addr) (T H : Hp) (base : Heap) (outer : List Env) (s : Shared) : Prop where
  no : ∀ c ∈ cs, H c = none
  at_ : ∀ c ∈ cs, ∃ ob, T c = some (CelO c ob) ∧ s.heap.get? c = some ob
  nb : ∀ c ∈ cs, base.get? c = none
  nf : ∀ c ∈ cs, c ∉ frs outer
theorem CellsIn.env0 (c : CellsIn cs T H base outer s) (e : Env0 P w K mg base A outer s H) : Env0 P w K mg base A outer s (ovr cs T H) :=
  ⟨e.frames, e.mod, fun b o q => ⟨(e.bs b o q).1, by rw [ovr_off fun z => by rw [c.nb b z] at q; cases q]; exact (e.bs b o q).2⟩, e.bsz, e.funs, fun b hb => by rw [ovr_off fun z => c.nf b z hb]; exact e.frf b hb, hok_ovr e.hok c.no c.at_, e.bare⟩
/-- back in the frame -/
theorem CellsIn.back (c : CellsIn cs T H base outer s) (h : CE outer P w (ovr cs T H) s (fun v H3 => (∀ a ∈ cs, H3 a = T a) ∧ Q v (rm cs H3)) u s') : CE outer P w H s Q u s' := by
  obtain ⟨v, H3, os, bare, un, hok, r, q1, q2⟩ := h
  have cel : Celled cs H3 := fun a ha => by
    obtain ⟨ob, e, _⟩ := c.at_ a ha
    exact ⟨ob, (q1 a ha).trans e⟩
  have offH : ∀ {b : Addr} {o : HO}, H b = some o → b ∉ cs := fun {b o} e z => by rw [c.no b z] at e; cases e
  refine ⟨v, rm cs H3, os, bare, ⟨fun b o e n hb hx => ?_, fun b o e n hb hx => ?_, fun b o e n hx => ?_, un.there, fun b xs e => ?_, fun b o x e => ?_, fun b ps e => ?_⟩, hok_rm hok cel, r, q2⟩
  · by_cases z : b ∈ cs
    · obtain ⟨ob, e1, e2⟩ := c.at_ b z
      rw [e] at e2
      cases e2
      exact (hok b _ ((q1 b z).trans e1)).1
    · exact un.keep b o e (by rw [ovr_off z]; exact n) hb hx
  · have z : b ∉ cs := fun z => c.nf b z hb
    exact un.slot b o e (by rw [ovr_off z]; exact n) hb hx
  · by_cases z : b ∈ cs
    · exact rm_in z
    · rw [rm_off z]
      exact un.free b o e (by rw [ovr_off z]; exact n) hx
  · have z := offH e
    rw [rm_off z]
    exact un.tups b xs (by rw [ovr_off z]; exact e)
  · have z := offH e
    rw [rm_off z]
    exact un.frzs b o x (by rw [ovr_off z]; exact e)
  · have z := offH e
    obtain ⟨more, q⟩ := un.tbls b ps (by rw [ovr_off z]; exact e)
    exact ⟨more, by rw [rm_off z]; exact q⟩
/-! the other way: the function whose cells are tracked runs -/
theorem env0_rm (e : Env0 P w K mg base A outer s H) (c : Celled cs H) : Env0 P w K mg base A outer s (rm cs H) := by
  have nn : ∀ {b : Addr}, H b = none → rm cs H b = none := fun {b} n => by
    by_cases z : b ∈ cs
    · exact rm_in z
    · rw [rm_off z]; exact n
  exact ⟨e.frames, e.mod, fun b o q => ⟨(e.bs b o q).1, nn (e.bs b o q).2⟩, e.bsz, e.funs, fun b hb => nn (e.frf b hb), hok_rm e.hok c, e.bare⟩
theorem ovr_none (c : Celled cs H) {b : Addr} (h : H b = none) : b ∉ cs := fun z => by
  obtain ⟨o, q⟩ := c b z
  rw [h] at q
  cases q
theorem hok_putback {h : Heap} (x : HOk P w H' h) (c : Celled cs H) (n : ∀ a ∈ cs, H' a = none) (k : ∀ a ∈ cs, ∀ o, H a = some (CelO a o) → h.get? a = some o) : HOk P w (ovr cs H H') h :=
  hok_ovr x n fun a ha => by
    obtain ⟨o, e⟩ := c a ha
    exact ⟨o, e, k a ha o e⟩
theorem ce_put (e0 : Env0 P w K mg base A outer s H) (c : Celled cs H) (h : CE outer P w (rm cs H) s (putQ cs H Q) u s') : CE outer P w H s Q u s' := by
  obtain ⟨v, H3, os, bare, un, hok, r, q⟩ := h
  have hcell : ∀ a ∈ cs, ∀ o, H a = some (CelO a o) → s.heap.get? a = some o := fun a ha o e => (e0.hok a _ e).1
  have nfr : ∀ a ∈ cs, a ∉ frs outer := fun a ha z => ovr_none c (e0.frf a z) ha
  have n3 : ∀ a ∈ cs, H3 a = none := fun a ha => by
    obtain ⟨o, e⟩ := c a ha
    exact un.free a o (hcell a ha o e) (rm_in ha) (by simp)
  have k3 : ∀ a ∈ cs, ∀ o, H a = some (CelO a o) → s'.heap.get? a = some o := fun a ha o e => un.keep a o (hcell a ha o e) (rm_in ha) (nfr a ha) (by simp)
  refine ⟨v, ovr cs H H3, os, bare, ⟨fun b o e n hb hx => ?_, fun b o e n hb hx => ?_, fun b o e n hx => ?_, un.there, fun b xs e => ?_, fun b o x e => ?_, fun b ps e => ?_⟩, hok_putback hok c n3 k3, r, q n3⟩
  · exact un.keep b o e (by rw [rm_off (ovr_none c n)]; exact n) hb hx
  · exact un.slot b o e (by rw [rm_off (ovr_none c n)]; exact n) hb hx
  · rw [ovr_off (ovr_none c n)]
    exact un.free b o e (by rw [rm_off (ovr_none c n)]; exact n) hx
  · have z := c.off e fun _ z => by cases z
    rw [ovr_off z]
    exact un.tups b xs (by rw [rm_off z]; exact e)
  · have z := c.off e fun _ z => by cases z
    rw [ovr_off z]
    exact un.frzs b o x (by rw [rm_off z]; exact e)
  · have z := c.off e fun _ z => by cases z
    obtain ⟨more, q⟩ := un.tbls b ps (by rw [rm_off z]; exact e)
    exact ⟨more, by rw [ovr_off z]; exact q⟩
theorem cx_put {E : XK} (e0 : Env0 P w K mg base A outer s H) (c : Celled cs H) (h : L2.CX P w outer (rm cs H) s (putE cs H E) u s') : L2.CX P w outer H s E u s' := by
  obtain ⟨a, B, H3, cls, d, eu, fl, hok, ub, na, os, bare, q⟩ := h
  have hcell : ∀ a ∈ cs, ∀ o, H a = some (CelO a o) → s.heap.get? a = some o := fun a ha o e => (e0.hok a _ e).1
  have nfr : ∀ a ∈ cs, a ∉ frs outer := fun a ha z => ovr_none c (e0.frf a z) ha
  have n3 : ∀ a ∈ cs, H3 a = none := fun a ha => by
    obtain ⟨o, e⟩ := c a ha
    exact ub.free a o (hcell a ha o e) (rm_in ha)
  have k3 : ∀ a ∈ cs, ∀ o, H a = some (CelO a o) → B.get? a = some o := fun a ha o e => ub.keep a o (hcell a ha o e) (rm_in ha) (nfr a ha)
  have ac : a ∉ cs := fun z => by
    obtain ⟨o, e⟩ := c a z
    have q1 := k3 a z o e
    rw [fl.2.1] at q1
    cases q1
  refine ⟨a, B, ovr cs H H3, cls, d, eu, fl, hok_putback hok c n3 k3, ⟨fun b o e n hb => ?_, ub.slot, fun b o e n => ?_, ub.there, fun b xs e => ?_, fun b o x e => ?_, fun b ps e => ?_⟩, by rw [ovr_off ac]; exact na, os, bare, q n3⟩
  · exact ub.keep b o e (by rw [rm_off (ovr_none c n)]; exact n) hb
  · rw [ovr_off (ovr_none c n)]
    exact ub.free b o e (by rw [rm_off (ovr_none c n)]; exact n)
  · have z := c.off e fun _ z => by cases z
    rw [ovr_off z]
    exact ub.tups b xs (by rw [rm_off z]; exact e)
  · have z := c.off e fun _ z => by cases z
    rw [ovr_off z]
    exact ub.frzs b o x (by rw [rm_off z]; exact e)
  · have z := c.off e fun _ z => by cases z
    obtain ⟨more, q⟩ := ub.tbls b ps (by rw [rm_off z]; exact e)
    exact ⟨more, by rw [ovr_off z]; exact q⟩
end
end PD
set_option Elab.async false
set_option linter.all false
set_option maxRecDepth 100000
set_option maxHeartbeats 4000000
/-! PdCal: functions as values: what a call promises, wherever it stands; lambdas -/
namespace PD
open PySem PySem.Spec PyProof.Rows L2 NdefX LamX
abbrev adr (cl : List (Str × Addr)) : List Addr := cl.map (·.2)
/-- the captured cells stand tracked; ws: what they hold -/
structure Cap (cl : List (Str × Addr)) (fr : List Str) (ws : List (Option V)) (H : Hp) : Prop where
  len : ws.length = fr.length
  all : ∀ c ∈ adr cl, ∃ o v, H c = some (CelO c o) ∧ o.data = .cell v
  inj : ∀ x y c, cl.lookup x = some c → cl.lookup y = some c → x = y
  has : ∀ (i : Nat) (y : Str), fr[i]? = some y → ∃ c, cl.lookup y = some c ∧ ∀ v, ws[i]? = some (some v) → ∃ o u, H c = some (CelO c o) ∧ o.data = .cell (some u) ∧ RelV v u
section
variable {cl : List (Str × Addr)} {fr : List Str} {ws : List (Option V)} {H H' : Hp} {P : Program} {w : World} {K : PySem.W.Frag} {mg : Str → Option Value} {base : Heap} {h : Heap}
theorem adr_look {y : Str} {c : Addr} (e : cl.lookup y = some c) : c ∈ adr cl := List.mem_map.mpr ⟨(y, c), PySem.mem_of_lookup e, rfl⟩
theorem Cap.celled (x : Cap cl fr ws H) : Celled (adr cl) H := fun c hc => let ⟨o, _, e, _⟩ := x.all c hc; ⟨o, e⟩
theorem Cap.up (x : Cap cl fr ws H) (e : ∀ c ∈ adr cl, H' c = H c) : Cap cl fr ws H' :=
  ⟨x.len, fun c hc => by rw [e c hc]; exact x.all c hc, x.inj, fun i y hy => let ⟨c, hc, k⟩ := x.has i y hy; ⟨c, hc, fun v hv => by rw [e c (adr_look hc)]; exact k v hv⟩⟩
theorem Cap.cells (x : Cap cl fr ws H) (ok : HOk P w H h) : CellsAt cl fr ws h (rm (adr cl) H) :=
  ⟨x.len, fun y c e => ⟨rm_in (adr_look e), by
    obtain ⟨o, v, e1, e2⟩ := x.all c (adr_look e)
    exact ⟨v, o, (ok c _ e1).1, e2⟩⟩, x.inj, fun i y hy => by
    obtain ⟨c, hc, k⟩ := x.has i y hy
    refine ⟨c, hc, fun v hv => ?_⟩
    obtain ⟨o, u, e1, e2, r⟩ := k v hv
    exact ⟨u, r, o, (ok c _ e1).1, e2⟩⟩
/-- a function value: what a call of it promises -/
structure Cal (P : Program) (w : World) (K : PySem.W.Frag) (mg : Str → Option Value) (base : Heap) (k : Nat) (f : Addr) (n : Nat) (sp : Sp) : Prop where
  run : ∀ (A : Around) (outer : List Env) (s : Shared) (H : Hp) (us : List Value) (vs : List V) (Q : VK) (E : XK), Room k A → Env0 P w K mg base A outer s H → vs.length = n → Vals vs us → sp vs H Q E →
    codeAny (model P w) A (.call (.ref f) ⟨us, []⟩) (CR (L2.CX P w) outer P w H s Q E) s
theorem Cal.mono {j k n : Nat} {f : Addr} {sp : Sp} (c : Cal P w K mg base j f n sp) (h : j ≤ k) : Cal P w K mg base k f n sp := ⟨fun A outer s H us vs Q E r => c.run A outer s H us vs Q E (r.mono h)⟩
theorem Cal.imp {k n : Nat} {f : Addr} {sp sp' : Sp} (c : Cal P w K mg base k f n sp) (h : ∀ vs H Q E, sp' vs H Q E → sp vs H Q E) : Cal P w K mg base k f n sp' :=
  ⟨fun A outer s H us vs Q E r e hl hv q => c.run A outer s H us vs Q E r e hl hv (h _ _ _ _ q)⟩
theorem cr_put {cs : List Addr} {A : Around} {outer : List Env} {s s' : Shared} {Q : VK} {E : XK} {r : Result} (e0 : Env0 P w K mg base A outer s H) (c : Celled cs H)
    (h : CR (L2.CX P w) outer P w (rm cs H) s (putQ cs H Q) (putE cs H E) r s') : CR (L2.CX P w) outer P w H s Q E r s' := by
  cases r with
  | error e => exact cx_put e0 c h
  | ok fl =>
    cases fl with
    | ret u => exact ce_put e0 c h
    | next => exact h
    | brk => exact h
    | cont => exact h
/-- a nested def's promise, of its value -/
def spN (f : Addr) (F : NF) (fr : List Str) (sp : List (Option V) → Sp) : Sp := fun vs H Q E => ∃ ws, H f = some (FnO f F) ∧ H F.c = some (CodeO F.c F.qual) ∧ Cap F.cl fr ws H ∧ f ∉ adr F.cl ∧ F.c ∉ adr F.cl ∧
  sp ws vs (rm (adr F.cl) H) (putQ (adr F.cl) H Q) (putE (adr F.cl) H E)
theorem nok_cal {k : Nat} {f : Addr} {F : NF} {ps fr : List Str} {sp : List (Option V) → Sp} (N : NOk P w K mg base (L2.CX P w) k f F ps fr sp) : Cal P w K mg base k f ps.length (spN f F fr sp) := by
  refine ⟨fun A outer s H us vs Q E hr e0 hl hv ⟨ws, hf, hc, cap, nf, nc, hsp⟩ => ?_⟩
  exact codeAny_mono (N.run A outer s (rm (adr F.cl) H) us vs ws _ _ hr (env0_rm e0 cap.celled) (by rw [rm_off nf]; exact hf) (by rw [rm_off nc]; exact hc) (cap.cells e0.hok) hv hsp) fun r s' q => cr_put e0 cap.celled q
/-! ### lambdas -/
/-- a code object that knows its table -/
def CodX (c T : Addr) (q : Str) : HO := .ext fun h => PySem.W.CodeHd h c T ∧ h.CodeRec (.ref c) q
/-- a lambda's object -/
def LmO (f : Addr) (F : NF) (ps : Arguments) (b : Expr) : HO := .ext fun h => ∃ pm ctv : Value, h.get? f = some (PySem.W.kla_obj F.name F.qual ps b F.scope F.cl pm F.c ctv)
theorem lmO_at {f : Addr} {F : NF} {ps : Arguments} {b : Expr} (ok : HOk P w H h) (e : H f = some (LmO f F ps b)) : ∃ pm ctv : Value, h.get? f = some (PySem.W.kla_obj F.name F.qual ps b F.scope F.cl pm F.c ctv) := (ok f _ e).1
theorem codX_at {c T : Addr} {q : Str} (ok : HOk P w H h) (e : H c = some (CodX c T q)) : PySem.W.CodeHd h c T ∧ h.CodeRec (.ref c) q := (ok c _ e).1
theorem codX_ok {c T : Addr} {q : Str} {H : Hp} (e1 : PySem.W.CodeHd h c T) (e2 : h.CodeRec (.ref c) q) : ObjOk P w H h c (CodX c T q) := by
  obtain ⟨o, us, file, tf, flags, tg, inF, text, tt, q1, r⟩ := e1
  refine ⟨⟨⟨o, us, file, tf, flags, tg, inF, text, tt, q1, r⟩, e2⟩, ⟨o, q1⟩, fun h1 h2 x st => ?_⟩
  obtain ⟨⟨o', us', a1, a2, a3, a4, a5, a6, a7, z1, z2⟩, ⟨c2, oc, vs, t, e, z3, z4⟩⟩ := x
  cases e
  exact ⟨⟨o', us', a1, a2, a3, a4, a5, a6, a7, st _ z1, z2⟩, ⟨c, oc, vs, t, rfl, st _ z3, z4⟩⟩
/-- a lambda's promise -/
def spL (f : Addr) (F : NF) (prm : Arguments) (b : Expr) (fr : List Str) (sp : List (Option V) → Sp) : Sp := fun vs H Q E => ∃ ws T, H f = some (LmO f F prm b) ∧ H F.c = some (CodX F.c T F.qual) ∧ Cap F.cl fr ws H ∧
  sp ws vs (rm (adr F.cl) H) (putQ (adr F.cl) H Q) (putE (adr F.cl) H E)
theorem lam_cal {k : Nat} {f : Addr} {F : NF} {N ps fr : List Str} {prm : Arguments} {b : Expr} {sp : List (Option V) → Sp} (S : NScope N ps fr F.scope)
    (hb : ∀ (pm ctv : Value) (us : List Value), us.length = ps.length → bindArgs (PySem.W.kla_fn F.name F.qual prm b F.scope F.cl pm (.ref F.c) ctv) ⟨us, []⟩ = pure (ps.zip us))
    (hbody : ∀ (A : Around) (outer : List Env) (s : Shared) (H : Hp) (vs : List V) (ws : List (Option V)) (Q : VK) (E : XK), Room k (A.deeper (envF F f s.heap.objs.size)) → ws.length = fr.length → vs.length = ps.length → sp ws vs H Q E →
      ∃ t, PE (ncx (L2.CX P w) P w K mg base N F f A outer s H E) b t ∧ t (startF N vs ws) H Q) :
    Cal P w K mg base (k + 1) f ps.length (spL f F prm b fr sp) := by
  refine ⟨fun A outer s H us vs Q E hr e0 hl hv ⟨ws, T, hf, hc, cap, hsp⟩ => ?_⟩
  have e1 := env0_rm e0 cap.celled
  have C := cap.cells e0.hok
  obtain ⟨pm, ctv, ho⟩ := lmO_at e0.hok hf
  refine codeAny_mono (R := CR (L2.CX P w) outer P w (rm (adr F.cl) H) s (putQ (adr F.cl) H Q) (putE (adr F.cl) H E)) ?_ fun r s' q => cr_put e0 cap.celled q
  have lim : s.heap.NoLimit := e0.mod.nolimit.keeps fun b o e => (e0.bs b o e).1
  refine PySem.W.kla_callFunE hr.depth ho rfl S.co S.gen rfl (codX_at e0.hok hc).2 ?_
  rw [hb pm ctv us (by rw [← hv.length]; exact hl)]
  refine wpAny_pure (wpAny_newFunctionEnv S.nocell (fun ⟨n, _⟩ hy => S.par n (List.of_mem_zip hy).1) (fun h₁ hns hsb => ⟨lim.fresh _ hsb, ?_⟩) S.kind)
  have kp : ∀ b o, s.heap.get? b = some o → h₁.get? b = some o := fun b o e => hsb.extBut b o (Nat.ne_of_lt (Heap.lt_size e)) (Heap.get?_push_of_some _ e)
  obtain ⟨t, ht, hq⟩ := hbody A outer s (rm (adr F.cl) H) vs ws _ _ (hr.deeper _) cap.len hl hsp
  have I := inv_startN (CX := L2.CX P w) (f := f) (E := putE (adr F.cl) H E) (tk := s.toks + (ps.zip us).length) S hr.hd e1 hl hv C hns kp
  refine PySem.W.kla_codeExpr (wpAny_mono (ht.run [] _ (startF N vs ws) _ _ I hq) (fun v s' q => ?_) fun e s' q => q)
  obtain ⟨x, H', J, rv, q⟩ := q
  exact ⟨x, H', J.os, J.bare, J.base, J.hok, rv, q⟩
end
/-! ### calling values -/
/-- there stands a function -/
def IsFn (f : Addr) (H : Hp) : Prop := ∃ φ, H f = some (.ext φ) ∧ ∀ h, φ h → PySem.W.FnAt f h
theorem isFn_def {f : Addr} {F : NF} {H : Hp} (e : H f = some (FnO f F)) : IsFn f H := ⟨_, e, fun h ⟨od, sl, doc, pm, ctv, z⟩ => ⟨_, od, _, sl, z⟩⟩
theorem isFn_lam {f : Addr} {F : NF} {ps : Arguments} {b : Expr} {H : Hp} (e : H f = some (LmO f F ps b)) : IsFn f H := ⟨_, e, fun h ⟨pm, ctv, z⟩ => ⟨_, _, _, _, z⟩⟩
section
variable {X : Cx} {k i n : Nat} {x m : Str} {p pos apos : Pos} {e o : Expr} {es : List Expr} {t : TA} {E : XK} {ta : TE}
theorem run_cal {pins : List (Addr × Obj)} {σ : L2.St} {H : Hp} {s : Shared} {Q : VK} {f : Addr} {sp : Sp} {us : List Value} {vs : List V} (c : Cal X.prog X.w X.K X.mg X.base k f n sp) (hr : Room k X.A) (hx : Passes (L2.CX X.prog X.w) X E) (I : Inv X pins σ H s) (hl : vs.length = n) (r : Vals vs us)
    (q : sp vs H Q E) : wpAny (model X.prog X.w) X.A (call (.ref f) us) (EP X pins σ Q) X.xe s := by
  refine wpAny_call (codeAny_mono (c.run X.A X.stack s H us vs Q E hr I.env0 hl r q) fun r s' hq => ?_)
  cases r with
  | error e => exact hx pins σ H s e s' I hq
  | ok fl =>
    cases fl with
    | ret u => exact I.after hq
    | next => exact False.elim hq
    | brk => exact False.elim hq
    | cont => exact False.elim hq
/-- x(), x(e, ..): the slot i holds a function -/
def tCallV (P : Program) (w : World) (K : PySem.W.Frag) (mg : Str → Option Value) (base : Heap) (k i : Nat) (E : XK) (t : TA) : TE := fun σ H Q => ∃ f, σ[i]? = some (some (.ref f)) ∧ IsFn f H ∧
  t σ H fun vs H1 => IsFn f H1 ∧ ∃ sp, Cal P w K mg base k f vs.length sp ∧ sp vs H1 Q E
theorem fnAt_is {pins : List (Addr × Obj)} {σ : L2.St} {H : Hp} {s : Shared} {f : Addr} (I : Inv X pins σ H s) (h : IsFn f H) : PySem.W.FnAt f s.heap := by
  obtain ⟨φ, e, k⟩ := h
  exact k _ (I.hok f _ e).1
theorem pe_callV (hr : Room k X.A) (hx : Passes (L2.CX X.prog X.w) X E) (hN : X.N[i]? = some x) (hv : Vis X.env.scope x) (ha : PA X (e :: es) t) (hd : (x == ("__debug__" : Str)) = false := by decide) (hcd : (x == ("__classdict__" : Str)) = false := by decide)
    (he : starEach (e :: es) X.env = (false, eval e X.env) :: starEach es X.env := by rfl) (hpl : (backTo pos (starEach es X.env)).any (·.1) = false := by rfl) :
    PE X (.Call (.Name x p) (e :: es) [] pos) (tCallV X.prog X.w X.K X.mg X.base k i E t) := by
  refine ⟨fun pins s σ H Q I ⟨f, hs, hf, ht⟩ => ?_⟩
  refine wpAny_Call_Name_kw (thn ((pe_var (pos := p) hN hv hd hcd).run pins s σ H (fun v H1 => v = .ref f ∧ H1 = H) I ⟨.ref f, hs, rfl, rfl⟩) fun u s1 ⟨v, H1, I1, r1, ev, eH⟩ => ?_)
  subst ev
  subst eH
  obtain rfl : u = Value.ref f := r1
  exact PySem.W.callWith_F (first := []) (fnAt_is I1 hf) (thn (ha.run pos pins s1 σ _ _ I1 ht) fun us s2 ⟨vs, H2, I2, r, h1, sp, c, q⟩ => ⟨fnAt_is I2 h1, run_cal c hr hx I2 rfl r q⟩) he hpl
theorem pe_callV0 (hr : Room k X.A) (hx : Passes (L2.CX X.prog X.w) X E) (hN : X.N[i]? = some x) (hv : Vis X.env.scope x) (hd : (x == ("__debug__" : Str)) = false := by decide) (hcd : (x == ("__classdict__" : Str)) = false := by decide) :
    PE X (.Call (.Name x p) [] [] pos) (tCallV X.prog X.w X.K X.mg X.base k i E tNil) := by
  refine ⟨fun pins s σ H Q I ⟨f, hs, hf, h1, sp, c, q⟩ => ?_⟩
  refine wpAny_Call_Name_kw (thn ((pe_var (pos := p) hN hv hd hcd).run pins s σ H (fun v H1 => v = .ref f ∧ H1 = H) I ⟨.ref f, hs, rfl, rfl⟩) fun u s1 ⟨v, H1, I1, r1, ev, eH⟩ => ?_)
  subst ev
  subst eH
  obtain rfl : u = Value.ref f := r1
  exact PySem.W.callWith_F0 (first := []) (fnAt_is I1 hf) (run_cal (us := []) c hr hx I1 rfl .nil q)
/-- o.m(e, ..): the instance's own field m holds a function -/
def tCallF (P : Program) (w : World) (K : PySem.W.Frag) (mg : Str → Option Value) (base : Heap) (k : Nat) (m : Str) (E : XK) (ta : TE) (t : TA) : TE := fun σ H Q => ta σ H fun y H1 => ∃ a C dx fs f, y = .ref a ∧ H1 a = some (.ins C dx fs) ∧ Cls K C ∧ NoAttr K C m ∧ fs.lookup m = some (.ref f) ∧ IsFn f H1 ∧
  t σ H1 fun vs H2 => IsFn f H2 ∧ ∃ sp, Cal P w K mg base k f vs.length sp ∧ sp vs H2 Q E
theorem pe_callF {pl : Sem Bool} (ho : PE X o ta) (hr : Room k X.A) (hx : Passes (L2.CX X.prog X.w) X E) (ha : PA X (e :: es) t)
    (he : starEach (e :: es) X.env = (false, eval e X.env) :: starEach es X.env := by rfl) (hpl : (backTo pos (starEach es X.env)).any (·.1) = false := by rfl)
    (ht : eval (.Call (.Attribute o m apos) (e :: es) [] pos) X.env = (do
      let ov ← eval o X.env
      standAt apos.atName
      let (f, first) ← holding [ov] (getMethod ov m pl)
      callWith pos f first (backTo pos (starEach (e :: es) X.env)) (backToKw pos (keywordEach [] X.env))) := by rfl) :
    PE X (.Call (.Attribute o m apos) (e :: es) [] pos) (tCallF X.prog X.w X.K X.mg X.base k m E ta t) := by
  refine ⟨fun pins s σ H Q I h => ?_⟩
  refine PySem.W.methodCall_KW (pl := pl) (thn (ho.run pins s σ H _ I h) fun u s1 ⟨y, H1, I1, rx, a, C, dx, fs, f, ey, ea, c, n, l, hf, q⟩ => ?_) ht
  subst ey
  obtain rfl : u = Value.ref a := rx
  obtain ⟨mA, O, _⟩ := ins_get I1.hok ea
  obtain ⟨od, J, hl⟩ := O.look
  refine PySem.W.method_usual I1.kIn J (PySem.W.plainGet_of (c.get m)).1 (PySem.W.plainGet_of (c.get m)).2 n rfl (getattr_ok I1 ea c n l fun u' s2 I2 ru => ?_)
  obtain rfl : u' = Value.ref f := ru
  exact PySem.W.callWith_F (first := []) (fnAt_is I2 hf) (thn (ha.run pos pins s2 σ H1 _ I2 q) fun us s3 ⟨vs, H2, I3, r, h1, sp, cc, q3⟩ => ⟨fnAt_is I3 h1, run_cal cc hr hx I3 rfl r q3⟩) he hpl
end
end PD
set_option Elab.async false
set_option linter.all false
set_option maxRecDepth 100000
set_option maxHeartbeats 4000000
/-! PdLam: lambdas made (their code objects in tables); calls with the frame's cells tracked -/
namespace PD
open PySem PySem.Spec PyProof.Rows L2 NdefX LamX
/-! ### the tables -/
/-- the table at T: its code objects have the first name; their own tables are such of the names behind, and none of Z -/
def TabX (Z : List Addr) (H : Hp) : List Str → Addr → Prop
  | [], _ => True
  | q :: qs, T => ∃ ps : Array Value, H T = some (.tbl ps) ∧ TriplesOk ps.toList ∧ ∀ (pos : Pos) (cv : Value), codeAmong pos ps.toList = some cv → ∃ c T', cv = .ref c ∧ H c = some (CodX c T' q) ∧ T' ∉ Z ∧ (qs ≠ [] → ∃ ps', H T' = some (.tbl ps')) ∧ TabX Z H qs T'
theorem TabX.nil {Z : List Addr} {H : Hp} {T : Addr} {qs : List Str} (h : H T = some (.tbl #[])) : TabX Z H qs T := by
  cases qs with
  | nil => trivial
  | cons q qs => exact ⟨#[], h, trivial, fun pos cv hc => by
      have z : codeAmong pos [] = some cv := hc
      simp [codeAmong] at z⟩
theorem TabX.at_ {Z : List Addr} {H : Hp} {T : Addr} {q : Str} {qs : List Str} (h : TabX Z H (q :: qs) T) : ∃ ps, H T = some (.tbl ps) := let ⟨ps, e, _⟩ := h; ⟨ps, e⟩
theorem TabX.up {Z : List Addr} {H H' : Hp} (e : ∀ a o, H a = some o → H' a = some o) : ∀ (qs : List Str) (T : Addr), TabX Z H qs T → TabX Z H' qs T
  | [], _, _ => trivial
  | q :: qs, T, ⟨ps, h1, h2, h3⟩ => ⟨ps, e _ _ h1, h2, fun pos cv hc => by
    obtain ⟨c, T', a1, a2, a3, a4, a5⟩ := h3 pos cv hc
    exact ⟨c, T', a1, e _ _ a2, a3, fun n => let ⟨p, x⟩ := a4 n; ⟨p, e _ _ x⟩, TabX.up e qs T' a5⟩⟩
theorem codX_ne {c T : Addr} {q : Str} (ps : Array Value) : CodX c T q ≠ .tbl ps := fun z => by
  unfold CodX at z
  cases z
/-- the table at T0, one of Z, has changed alone -/
theorem TabX.but {Z : List Addr} {H H' : Hp} {T0 : Addr} (hZ : T0 ∈ Z) (e : ∀ a o, a ≠ T0 → H a = some o → H' a = some o) (h0 : ∃ ps, H T0 = some (.tbl ps)) : ∀ (qs : List Str) (T : Addr), T ≠ T0 → TabX Z H qs T → TabX Z H' qs T
  | [], _, _, _ => trivial
  | q :: qs, T, n, ⟨ps, h1, h2, h3⟩ => ⟨ps, e _ _ n h1, h2, fun pos cv hc => by
    obtain ⟨p0, e0⟩ := h0
    obtain ⟨c, T', a1, a2, a3, a4, a5⟩ := h3 pos cv hc
    have n2 : T' ≠ T0 := fun z => a3 (z ▸ hZ)
    exact ⟨c, T', a1, e _ _ (fun z => codX_ne p0 (Option.some.inj ((z ▸ a2).symm.trans e0))) a2, a3, fun n => let ⟨p, x⟩ := a4 n; ⟨p, e _ _ n2 x⟩, TabX.but hZ e ⟨p0, e0⟩ qs T' n2 a5⟩⟩
/-- the table at T1, none of Z, has changed alone and is good -/
theorem TabX.but2 {Z : List Addr} {H H' : Hp} {T T1 : Addr} {q r : Str} (n : T ≠ T1) (e : ∀ a o, a ≠ T1 → H a = some o → H' a = some o) (h1 : TabX Z H' [r] T1) (h0 : ∃ ps, H T1 = some (.tbl ps)) (x : TabX Z H [q, r] T) : TabX Z H' [q, r] T := by
  obtain ⟨ps, a1, a2, a3⟩ := x
  obtain ⟨p0, e0⟩ := h0
  have nc : ∀ {c T' q}, H c = some (CodX c T' q) → H' c = some (CodX c T' q) := fun {c T' q} h => e _ _ (fun z => codX_ne p0 (Option.some.inj ((z ▸ h).symm.trans e0))) h
  refine ⟨ps, e _ _ n a1, a2, fun pos cv hc => ?_⟩
  obtain ⟨c, T', b1, b2, b3, b4, b5⟩ := a3 pos cv hc
  by_cases z : T' = T1
  · subst z
    exact ⟨c, T', b1, nc b2, b3, fun _ => h1.at_, h1⟩
  · refine ⟨c, T', b1, nc b2, b3, fun n => let ⟨p, x⟩ := b4 n; ⟨p, e _ _ z x⟩, ?_⟩
    obtain ⟨ps2, d1, d2, d3⟩ := b5
    refine ⟨ps2, e _ _ z d1, d2, fun pos cv hc => ?_⟩
    obtain ⟨c2, T2, f1, f2, f3, f4, f5⟩ := d3 pos cv hc
    exact ⟨c2, T2, f1, nc f2, f3, fun n => absurd rfl n, trivial⟩
theorem TabX.but1 {Z : List Addr} {H H' : Hp} {T T1 : Addr} {q : Str} (n : T ≠ T1) (e : ∀ a o, a ≠ T1 → H a = some o → H' a = some o) (h0 : ∃ ps, H T1 = some (.tbl ps)) (x : TabX Z H [q] T) : TabX Z H' [q] T := by
  obtain ⟨ps, a1, a2, a3⟩ := x
  obtain ⟨p0, e0⟩ := h0
  refine ⟨ps, e _ _ n a1, a2, fun pos cv hc => ?_⟩
  obtain ⟨c, T', b1, b2, b3, b4, b5⟩ := a3 pos cv hc
  exact ⟨c, T', b1, e _ _ (fun z => codX_ne p0 (Option.some.inj ((z ▸ b2).symm.trans e0))) b2, b3, fun n => absurd rfl n, trivial⟩
section
variable {X : Cx} {pins : List (Addr × Obj)} {σ : L2.St} {H : Hp} {s : Shared}
/-- what the making of a function asks of the maker's code object at c, its table at T -/
structure MkB (X : Cx) (h : Heap) (c T : Addr) : Prop where
  code : PySem.W.CodeHd h c T
  bm : h.BuiltinsAt X.mg T
  gT : mainGlobals ≠ T
theorem mkB_base {c T : Addr} (I : Inv X pins σ H s) (B : TabB X.base X.mg c T) : MkB X s.heap c T := ⟨B.code.keeps I.bk, B.bm.keeps I.bk, B.gP⟩
/-- .. of a code object that the run made; B: another that stands in the base -/
theorem mkB_run {c0 T0 c T : Addr} {q : Str} {ps : Array Value} (I : Inv X pins σ H s) (B : TabB X.base X.mg c0 T0) (hc : H c = some (CodX c T q)) (hT : H T = some (.tbl ps)) : MkB X s.heap c T := by
  have nb : ∀ b, (∃ o, X.base.get? b = some o) → b ≠ T := fun b ⟨o, e⟩ z => by
    have q := (I.bs b o e).2
    rw [z, hT] at q
    cases q
  refine ⟨(codX_at I.hok hc).1, ?_, ?_⟩
  · obtain ⟨bm, ob, b1, b2, b3, b4, b5, r⟩ := B.bm
    exact ⟨bm, ob, b1, b2, b3, nb bm ⟨ob, b5⟩, I.bk _ _ b5, r⟩
  · obtain ⟨o, es, ep, e, _⟩ := I.mod.glob
    exact nb _ ⟨o, e⟩
/-- the code object's making -/
theorem inv_code {P c T : Addr} {q : Str} {ps more : Array Value} {h' : Heap} {t' : Nat} (I : Inv X pins σ H s) (hP : H P = some (.tbl ps)) (k : ∀ b o, b ≠ P → s.heap.get? b = some o → h'.get? b = some o)
    (hm : h'.get? P = some { cls := .none, data := .fields (ps ++ more) }) (hc : s.heap.objs.size ≤ c) (hT : s.heap.objs.size ≤ T) (cT : c ≠ T) (e1 : PySem.W.CodeHd h' c T) (e2 : h'.CodeRec (.ref c) q) (e3 : h'.get? T = some { cls := .none, data := .fields #[] }) :
    Inv X pins σ (upd (upd (upd H P (.tbl (ps ++ more))) c (CodX c T q)) T (.tbl #[])) { s with heap := h', toks := t' } := by
  have nC : H c = none := I.hok.fresh hc
  have nT : H T = none := I.hok.fresh hT
  have PT : P ≠ T := ne_of_none hP nT
  have Pc : P ≠ c := ne_of_none hP nC
  have lt : ∀ b o, s.heap.get? b = some o → b ≠ c ∧ b ≠ T := fun b o e => by
    have hb := Heap.lt_size e
    exact ⟨fun z => absurd (Nat.lt_of_lt_of_le hb (z ▸ hc)) (Nat.lt_irrefl _), fun z => absurd (Nat.lt_of_lt_of_le hb (z ▸ hT)) (Nat.lt_irrefl _)⟩
  generalize hH : upd (upd (upd H P (.tbl (ps ++ more))) c (CodX c T q)) T (.tbl #[]) = H3
  have aT : H3 T = some (.tbl #[]) := by rw [← hH, upd_same]
  have ac : H3 c = some (CodX c T q) := by rw [← hH, upd_ne cT, upd_same]
  have aP : H3 P = some (.tbl (ps ++ more)) := by rw [← hH, upd_ne PT, upd_ne Pc, upd_same]
  have off : ∀ b, b ≠ P → b ≠ c → b ≠ T → H3 b = H b := fun b h1 h2 h3 => by rw [← hH, upd_ne h3, upd_ne h2, upd_ne h1]
  have some_off : ∀ b u, H b = some u → b ≠ c ∧ b ≠ T := fun b u e => ⟨ne_of_none e nC, ne_of_none e nT⟩
  have ntb : ∀ b u, H b = some u → (∀ z, u ≠ .tbl z) → H3 b = some u := fun b u e z => by
    have hb : b ≠ P := fun y => by
      rw [y, hP] at e
      exact z _ (Option.some.inj e).symm
    rw [off b hb (some_off b u e).1 (some_off b u e).2]
    exact e
  have noP : ∀ b, H b = none → b ≠ P := fun b n z => by rw [z, hP] at n; cases n
  refine I.un ⟨fun b o e n _ _ => k b o (noP b n) e, fun b o e n _ _ => ⟨o.slots, k b o (noP b n) e⟩, fun b o e n _ => ?_, fun b o e _ => ?_, fun b xs e => ntb b _ e (fun z y => nomatch y), fun b o u e => ntb b _ e (fun z y => nomatch y), fun b qs e => ?_⟩ fun b u e => ?_
  · rw [off b (noP b n) (lt b o e).1 (lt b o e).2]; exact n
  · by_cases hb : b = P
    · subst hb; exact ⟨_, hm⟩
    · exact ⟨o, k b o hb e⟩
  · by_cases hb : b = P
    · subst hb
      rw [hP] at e
      cases e
      exact ⟨more, aP⟩
    · exact ⟨#[], by rw [off b hb (some_off b _ e).1 (some_off b _ e).2, Array.append_empty]; exact e⟩
  · by_cases h1 : b = T
    · subst h1
      rw [aT] at e
      cases e
      exact e3
    · by_cases h2 : b = c
      · subst h2
        rw [ac] at e
        cases e
        exact codX_ok e1 e2
      · by_cases h3 : b = P
        · subst h3
          rw [aP] at e
          cases e
          exact hm
        · rw [off b h3 h2 h1] at e
          refine (I.hok b u e).stay (fun d v hd y => k d v (fun z => ?_) y) (fun d y => ntb d _ y fun z w => nomatch w) fun d xs y => ntb d _ y fun z w => nomatch w
          rcases hd with hd | hd
          · exact h3 (hd.symm.trans z)
          · rw [z, hP] at hd; cases hd
theorem lmO_ok {P : Program} {w : World} {h : Heap} {f : Addr} {F : NF} {prm : Arguments} {b : Expr} {pm ctv : Value} {H : Hp} (e : h.get? f = some (PySem.W.kla_obj F.name F.qual prm b F.scope F.cl pm F.c ctv)) : ObjOk P w H h f (LmO f F prm b) :=
  ⟨⟨pm, ctv, e⟩, ⟨_, e⟩, fun h1 h2 ⟨pm, ctv, z⟩ st => ⟨pm, ctv, st _ z⟩⟩
end
section
variable {M : Model} {A : Around} {E : Value → Shared → Prop} {s : Shared} {name qual : Str} {prm : Arguments} {body : Expr} {scope : Scope} {env : Env} {c T : Addr} {ps : Array Value} {pos : Pos} {ln : Nat} {mg : Str → Option Value} {cl : List (Str × Addr)} {Q : Value → Shared → Prop}
/-- the tuple of the captured cells -/
theorem clo_tuple {α : Type} {k : Value → Sem α} {Q : α → Shared → Prop} (h : ∀ (ctv : Value) (h' : Heap), (∀ b o, s.heap.get? b = some o → h'.get? b = some o) → s.heap.objs.size ≤ h'.objs.size → wpAny M A (k ctv) Q E { s with heap := h' }) :
    wpAny M A (if cl.isEmpty = true then (do let t ← pure .none; k t) else (do let t ← newTextTuple ((cl.mergeSort fun a b => a.1.cps.toList ≤ b.1.cps.toList).map (.ref ·.2)); k t)) Q E s := by
  by_cases z : cl.isEmpty = true
  · rw [if_pos z]; exact wpAny_bind (wpAny_pure (h _ s.heap (fun _ _ e => e) (Nat.le_refl _)))
  · rw [if_neg z]; exact wpAny_bind (wpAny_newTextTuple (h _ _ (fun b o e => Heap.get?_push_of_some _ e) (by rw [Heap.size_push]; omega)))
theorem lam_tail (hcl : closureFor scope env = pure cl) (g0 : env.globals = mainGlobals) (hg : s.heap.Ns mainGlobals mg) (hcode : env.code = .ref c) (C : PySem.W.CodeHd s.heap c T) (hT : s.heap.get? T = some (PySem.W.tabObj ps)) (ht : TriplesOk ps.toList)
    (gT : mainGlobals ≠ T) (hb : s.heap.BuiltinsAt mg T)
    (new : codeAmong pos ps.toList = none → ∀ (c' T' : Addr) (ctv : Value) (h' : Heap) (tk : Tok), (∀ b o, b ≠ T → s.heap.get? b = some o → h'.get? b = some o) → s.heap.objs.size ≤ c' → c' < h'.objs.size → s.heap.objs.size ≤ T' → c' ≠ T' → PySem.W.CodeHd h' c' T' → h'.CodeRec (.ref c') qual →
      h'.get? T' = some (PySem.W.tabObj #[]) → h'.get? T = some (PySem.W.tabObj (ps ++ #[rawInt pos.line, rawInt pos.col, .ref c'])) → Q (.ref h'.objs.size) { s with heap := h'.push (PySem.W.kla_obj name qual prm body scope cl ((mg "__name__").getD .none) c' ctv), toks := tk })
    (hit : ∀ c', codeAmong pos ps.toList = some (.ref c') → ∀ (ctv : Value) (h' : Heap) (tk : Tok), (∀ b o, s.heap.get? b = some o → h'.get? b = some o) → s.heap.objs.size ≤ h'.objs.size → Q (.ref h'.objs.size) { s with heap := h'.push (PySem.W.kla_obj name qual prm body scope cl ((mg "__name__").getD .none) c' ctv), toks := tk })
    (hv : ∀ cv, codeAmong pos ps.toList = some cv → ∃ c', cv = .ref c') : wpAny M A (makeTail name qual prm (.expr body) scope env .none .none none pos ln) Q E s := by
  obtain ⟨bm, ob, b1, b2, _, b4, b5, b6, b7, b8⟩ := hb
  unfold makeTail
  rw [hcl, g0]
  refine wpAny_bind (wpAny_pure ?_)
  refine clo_tuple fun ctv h1 k1 z1 => ?_
  have gz := hg.keeps k1
  have C1 := C.keeps k1
  have T1 := k1 _ _ hT
  cases e : codeAmong pos ps.toList with
  | none =>
    refine wpAny_bind (wpAny_functionCodeX hcode (C1.code T1 ht) (C1.tab T1) e fun c' h' tk hx hge hlt _ hrec htb ⟨T', a1, a2, a3⟩ => ?_)
    have gz2 := gz.extBut hx gT
    refine wpAny_bind (wpAny_builtinsFor gz2 b1 b2 (hx _ _ b4 (k1 _ _ b5)) b6 b7 b8 ?_)
    refine wpAny_bind (wpAny_nsGet gz2 ?_)
    have hh := PySem.W.CodeHd.of a2 a3
    have ne : c' ≠ T' := by
      obtain ⟨o, us, file, tf, flags, tg, inF, text, tt, r⟩ := hh
      exact r.2.2.2.2.2.2.2.2.2
    exact wpAny_bind (wpAny_pure (wpAny_newObj_type (new e c' T' ctv h' tk (fun b o hb q => hx b o hb (k1 b o q)) (Nat.le_trans z1 hge) hlt (Nat.le_trans z1 a1) ne hh hrec a3.2 htb.2) (by size_fits)))
  | some cv =>
    obtain ⟨c', rfl⟩ := hv cv e
    refine wpAny_bind (wpAny_functionCode_hit hcode (C1.code T1 ht) e ?_)
    refine wpAny_bind (wpAny_builtinsFor gz b1 b2 (k1 _ _ b5) b6 b7 b8 ?_)
    refine wpAny_bind (wpAny_nsGet gz ?_)
    exact wpAny_bind (wpAny_pure (wpAny_newObj_type (hit c' e ctv h1 s.toks k1 z1) (by size_fits)))
end
section
variable {X : Cx}
abbrev lamF (X : Cx) (scope : Scope) (c' : Addr) : NF := ⟨"<lambda>", X.env.qual ++ "<lambda>", C8.fnArgs (.Pass ⟨0, 0, 0, 0⟩), [], scope, cloFrom X.env.cells scope.names [], c'⟩
/-- what the lambda's making leaves -/
structure LamMade (X : Cx) (Z : List Addr) (T : Addr) (qs : List Str) (scope : Scope) (prm : Arguments) (b : Expr) (H : Hp) (f c' : Addr) (H1 : Hp) : Prop where
  stay : ∀ a o, a ≠ T → H a = some o → H1 a = some o
  dom : ∀ a, H1 a = none → H a = none
  tab : TabX Z H1 ((X.env.qual ++ "<lambda>") :: qs) T
  was : ∃ ps, H T = some (.tbl ps)
  nf : H f = none
  at_ : H1 f = some (LmO f (lamF X scope c') prm b)
  code : ∃ T', H1 c' = some (CodX c' T' (X.env.qual ++ "<lambda>")) ∧ T' ∉ Z ∧ (qs ≠ [] → ∃ ps, H1 T' = some (.tbl ps)) ∧ TabX Z H1 qs T'
/-- the making's reading: W, what must be so -/
def tLamb (X : Cx) (W : Hp → Prop) (Z : List Addr) (T : Addr) (qs : List Str) (scope : Scope) (prm : Arguments) (b : Expr) : TE := fun σ H Q => W H ∧ (∀ z ∈ Z, H z ≠ none) ∧ TabX Z H ((X.env.qual ++ "<lambda>") :: qs) T ∧ (T ∈ Z ∨ qs = []) ∧
  ∀ f c' H1, LamMade X Z T qs scope prm b H f c' H1 → Q (.ref f) H1
theorem upd_no {H : Hp} {a b : Addr} {o : HO} (e : upd H a o b = Option.none) : H b = Option.none := upd_none e
theorem pe_lamb {W : Hp → Prop} {Z : List Addr} {c T : Addr} {qs : List Str} {prm : Arguments} {b : Expr} {scope : Scope} {pos : Pos} (mb : ∀ pins σ H s, Inv X pins σ H s → W H → MkB X s.heap c T) (hcode : X.env.code = .ref c)
    (hfree : ∀ y ∈ scope.names, y.2 = .free → X.env.scope.names.lookup y.1 = some .cell ∨ X.env.scope.names.lookup y.1 = some .free) (hdef : defaultsOf prm X.env = ([], [])) : PE X (.Lambda prm b scope pos) (tLamb X W Z T qs scope prm b) := by
  refine ⟨fun pins s σ H Q I ⟨hW, hZ, hT, hq, k⟩ => ?_⟩
  have B := mb pins σ H s I hW
  obtain ⟨ps, hP, ht, ha⟩ := id hT
  have hfr : ∀ y ∈ scope.names, y.2 = .free → ∃ c, X.env.cells.lookup y.1 = some c := fun y hy e => (hfree y hy e).elim (fun z => I.ok.has _ (.inl z)) fun z => I.ok.has _ (.inr z)
  refine PySem.W.kla_eval hdef ?_
  rw [makeFunction_eq]
  simp only [List.zip_nil_right, List.filterMap_nil, List.isEmpty_nil, if_true, pure_bind]
  refine lam_tail (closure_ok hfr) I.ok.glob (I.mod.glob.keeps I.bk) hcode B.code (I.hok T _ hP) ht B.gT B.bm (fun hn c' T' ctv h' tk hk hge hlt hgT ne e1 e2 e3 e4 => ?_) (fun c' hc ctv h' tk hk hsz => ?_) fun cv hc => ?_
  · have nC : H c' = none := I.hok.fresh hge
    have nT : H T' = none := I.hok.fresh hgT
    have I1 := inv_code (t' := tk) I hP hk e4 hge hgT ne e1 e2 e3
    have nF := I1.hok.fresh (Nat.le_refl _)
    generalize hH : upd (upd (upd H T (.tbl (ps ++ #[rawInt pos.line, rawInt pos.col, .ref c']))) c' (CodX c' T' (X.env.qual ++ "<lambda>"))) T' (.tbl #[]) = H2 at I1 nF
    have TT : T ≠ T' := ne_of_none hP nT
    have Tc : T ≠ c' := ne_of_none hP nC
    have aT' : H2 T' = some (.tbl #[]) := by rw [← hH, upd_same]
    have ac : H2 c' = some (CodX c' T' (X.env.qual ++ "<lambda>")) := by rw [← hH, upd_ne ne, upd_same]
    have aT : H2 T = some (.tbl (ps ++ #[rawInt pos.line, rawInt pos.col, .ref c'])) := by rw [← hH, upd_ne TT, upd_ne Tc, upd_same]
    have st : ∀ a o, a ≠ T → H a = some o → H2 a = some o := fun a o h1 h2 => by
      rw [← hH, upd_ne (ne_of_none h2 nT), upd_ne (ne_of_none h2 nC), upd_ne h1]; exact h2
    have I2 := I1.laid (a := h'.objs.size) (o := LmO h'.objs.size (lamF X scope c') prm b) (t' := tk) (h' := h'.push (PySem.W.kla_obj "<lambda>" (X.env.qual ++ "<lambda>") prm b scope (cloFrom X.env.cells scope.names []) ((X.mg "__name__").getD .none) c' ctv))
      (fun b o e => Heap.get?_push_of_some _ e) (Nat.le_refl _) (lmO_ok (Heap.get?_push_size _ rfl))
    have up : ∀ a o, H2 a = some o → upd H2 h'.objs.size (LmO h'.objs.size (lamF X scope c') prm b) a = some o := fun a o e => by rw [upd_ne (ne_of_none e nF)]; exact e
    have nf0 : H h'.objs.size = none := I.hok.fresh (Nat.le_trans hge (Nat.le_of_lt hlt))
    have tz : T' ∉ Z := fun z => hZ _ z nT
    refine ⟨.ref _, _, I2, rfl, k _ c' _ ⟨fun a o h1 h2 => up _ _ (st a o h1 h2), fun a e => ?_, ?_, ⟨ps, hP⟩, nf0, upd_same, T', up _ _ ac, tz, fun _ => ⟨_, up _ _ aT'⟩, .nil (up _ _ aT')⟩⟩
    · have e := upd_no e
      rw [← hH] at e
      exact upd_no (upd_no (upd_no e))
    · have eL : (ps ++ #[rawInt pos.line, rawInt pos.col, .ref c']).toList = ps.toList ++ [rawInt pos.line, rawInt pos.col, .ref c'] := by simp
      refine ⟨_, up _ _ aT, by rw [eL]; exact PySem.TriplesOk_snoc _ _ _ _ ht, fun p' cv hcv => ?_⟩
      rw [eL] at hcv
      rcases among_app _ ht hcv with z | z
      · obtain ⟨c0, T0, b1, b2, b3, b4, b5⟩ := ha p' cv z
        have h2 : H2 c0 = some (CodX c0 T0 (X.env.qual ++ "<lambda>")) := st _ _ (fun w => codX_ne ps (Option.some.inj ((w ▸ b2).symm.trans hP))) b2
        rcases hq with hq | hq
        · have n0 : T0 ≠ T := fun z => b3 (z ▸ hq)
          exact ⟨c0, T0, b1, up _ _ h2, b3, fun n => let ⟨p, x⟩ := b4 n; ⟨p, up _ _ (st _ _ n0 x)⟩, TabX.up up _ _ (TabX.but hq st ⟨ps, hP⟩ _ _ n0 b5)⟩
        · subst hq
          exact ⟨c0, T0, b1, up _ _ h2, b3, fun n => absurd rfl n, trivial⟩
      · exact ⟨c', T', z, up _ _ ac, tz, fun _ => ⟨_, up _ _ aT'⟩, .nil (up _ _ aT')⟩
  · obtain ⟨c0, T0, b1, b2, b3, b4, b5⟩ := ha pos _ hc
    cases b1
    have I1 : Inv X pins σ H { s with heap := h', toks := tk } := I.kept hk
    have nF : H h'.objs.size = none := I.hok.fresh hsz
    have I2 := I1.laid (a := h'.objs.size) (o := LmO h'.objs.size (lamF X scope c') prm b) (t' := tk) (h' := h'.push (PySem.W.kla_obj "<lambda>" (X.env.qual ++ "<lambda>") prm b scope (cloFrom X.env.cells scope.names []) ((X.mg "__name__").getD .none) c' ctv))
      (fun b o e => Heap.get?_push_of_some _ e) (Nat.le_refl _) (lmO_ok (Heap.get?_push_size _ rfl))
    have up : ∀ a o, H a = some o → upd H h'.objs.size (LmO h'.objs.size (lamF X scope c') prm b) a = some o := fun a o e => by rw [upd_ne (ne_of_none e nF)]; exact e
    exact ⟨.ref _, _, I2, rfl, k _ c' _ ⟨fun a o _ h2 => up _ _ h2, fun a e => upd_no e, TabX.up up _ _ hT, ⟨ps, hP⟩, nF, upd_same, T0, up _ _ b2, b3, fun n => let ⟨p, x⟩ := b4 n; ⟨p, up _ _ x⟩, TabX.up up _ _ b5⟩⟩
  · obtain ⟨c0, T0, b1, _⟩ := ha pos cv hc
    exact ⟨c0, b1⟩
end
end PD
set_option Elab.async false
set_option linter.all false
set_option maxRecDepth 100000
set_option maxHeartbeats 4000000
/-! PdTrk: calls that are handed a function of the running frame: its cells stand tracked meanwhile; calls by keywords alone -/
namespace PD
open PySem PySem.Spec PyProof.Rows L2 NdefX LamX
/-- of a def, all that its callers ask: by places and by the keywords ks (in the order sw of the parameters) -/
structure FnK (P : Program) (w : World) (K : PySem.W.Frag) (mg : Str → Option Value) (base : Heap) (CX : CXT) (x : Str) (k : Nat) (n : Nat) (ks : List Str) (sw : {α : Type} → List α → List α) (sp : Sp) : Prop where
  ex : ∃ (f : Addr) (fd : FuncData) (ps : List Str), mg x = some (.ref f) ∧ PySem.W.keepIn K (.ref f) = true ∧ ps.length = n ∧ Binds K fd ps [] ∧ (∀ (s : Shared) (ws : List Value), ws.length = n → BindsTo s fd ⟨[], ks.zip ws⟩ (ps.zip (sw ws))) ∧
    (∀ {vs : List V} {us : List Value}, Vals vs us → Vals (sw vs) (sw us)) ∧ (∀ ws : List Value, ws.length = n → (sw ws).length = n) ∧ FnOk P w K mg base CX k f fd ps sp
theorem FnK.fn {P : Program} {w : World} {K : PySem.W.Frag} {mg : Str → Option Value} {base : Heap} {CX : CXT} {x : Str} {k n : Nat} {ks : List Str} {sw : {α : Type} → List α → List α} {sp : Sp} (F : FnK P w K mg base CX x k n ks sw sp) : Fn P w K mg base CX x k n sp :=
  let ⟨f, fd, ps, h1, h2, h3, h4, _, _, _, h5⟩ := F.ex; ⟨f, fd, ps, h1, h2, h3, h4, h5⟩
/-- two parameters, told in the other order -/
def swap2 {α : Type} (l : List α) : List α := l.reverse
theorem fnK2 {P : Program} {w : World} {K : PySem.W.Frag} {mg : Str → Option Value} {base : Heap} {CX : CXT} {x a b : Str} {k : Nat} {st : Stmt} {sp : Sp} (D : Df K mg x st)
    (hb : ∀ (kV doc pm : Value) (an : Option Addr) (cdv ct : Value) (us : List Value), us.length = 2 → bindArgs (PySem.W.fnOf x x (defArgs st) (defBody st) (defScope st) .none kV doc pm an cdv ct) ⟨us, []⟩ = pure ([a, b].zip us))
    (hk : ∀ (kV doc pm : Value) (an : Option Addr) (cdv ct : Value) (us : List Value), us.length = 2 → bindArgs (PySem.W.fnOf x x (defArgs st) (defBody st) (defScope st) .none kV doc pm an cdv ct) ⟨[], [b, a].zip us⟩ = pure ([a, b].zip us.reverse))
    (ok : ∀ f fd, Fun K x x st f fd → FnOk P w K mg base CX k f fd [a, b] sp) : FnK P w K mg base CX x k 2 [b, a] (fun l => swap2 l) sp := by
  obtain ⟨f, fd, h1, h2⟩ := D.ex
  refine ⟨f, fd, [a, b], h1, h2.kp, rfl, h2.binds hb, fun s ws hl => ?_, fun {vs us} r => ?_, fun ws hl => by rw [swap2, List.length_reverse]; exact hl, ok f fd h2⟩
  · obtain ⟨oc, od, kV, doc, pm, an, cdv, ct, osl, rfl, _⟩ := h2.ex
    exact BindsTo.of_eq (hk kV doc pm an cdv ct ws hl)
  · unfold swap2
    induction r with
    | nil => exact .nil
    | cons h t ih =>
      rw [List.reverse_cons, List.reverse_cons]
      exact ih.append (.cons h .nil)
section
variable {X : Cx} {CX : CXT} {k : Nat} {cl : List (Str × Addr)} {fr : List Str} {js : List Nat} {sp : Sp} {x : Str} {p pos : Pos} {e : Expr} {es : List Expr} {t tk : TA} {kws : List Keyword} {ks : List Str}
/-- the cells cl are the running frame's own -/
structure Own (X : Cx) (cl : List (Str × Addr)) (fr : List Str) (js : List Nat) : Prop where
  caps : X.Ok → Caps X cl fr js
  mem : X.Ok → ∀ c ∈ adr cl, ∃ y, X.env.cells.lookup y = some c
  fn : ∀ y, X.fn y = true
theorem own_made {scope : Scope} (hfree : ∀ y ∈ scope.names, y.2 = .free → X.env.scope.names.lookup y.1 = some .cell ∨ X.env.scope.names.lookup y.1 = some .free) (hfr : ∀ y ∈ fr, (y, NameKind.free) ∈ scope.names) (hjs : js.map (fun j => X.N[j]?) = fr.map some) (hfn : ∀ y, X.fn y = true) :
    Own X (cloFrom X.env.cells scope.names []) fr js := by
  refine ⟨fun ok => Caps.made ok hfree hfr hjs, fun ok c hc => ?_, hfn⟩
  obtain ⟨⟨y, c'⟩, hm, rfl⟩ := List.mem_map.mp hc
  rcases cloFrom_mem hm with z | ⟨h1, h2⟩
  · cases z
  · obtain ⟨c1, e1⟩ := (hfree _ h1 rfl).elim (fun z => ok.has _ (.inl z)) fun z => ok.has _ (.inr z)
    refine ⟨y, ?_⟩
    have e1 : X.env.cells.lookup y = some c1 := e1
    show X.env.cells.lookup y = some c'
    rw [h2, e1]; rfl
def celT (h : Heap) : Hp := fun c => match h.get? c with
  | some o => some (CelO c o)
  | none => none
theorem celT_at {h : Heap} {c : Addr} {o : Obj} (e : h.get? c = some o) : celT h c = some (CelO c o) := by
  unfold celT
  rw [e]
theorem Own.cellsIn {pins : List (Addr × Obj)} {σ : L2.St} {H : Hp} {s : Shared} (w : Own X cl fr js) (I : Inv X pins σ H s) : CellsIn (adr cl) (celT s.heap) H X.base X.stack s := by
  have lo : ∀ c ∈ adr cl, X.s_0.heap.objs.size ≤ c := fun c hc => let ⟨y, e⟩ := w.mem I.ok c hc; I.ok.cab y c (w.fn y) e
  refine ⟨fun c hc => let ⟨y, e⟩ := w.mem I.ok c hc; I.freeC y c e, fun c hc => ?_, fun c hc => Heap.get?_none_of_le (Nat.le_trans I.ok.bsz (lo c hc)), fun c hc z => ?_⟩
  · obtain ⟨y, e⟩ := w.mem I.ok c hc
    obtain ⟨v, o, ho, _⟩ := I.cell y c e
    exact ⟨o, celT_at ho, ho⟩
  · obtain ⟨y, e⟩ := w.mem I.ok c hc
    rcases List.mem_cons.mp (I.stkSub c z) with q | q
    · exact I.cne y c e q
    · obtain ⟨_, o, ho, _⟩ := I.ok.funs.mem q
      exact absurd (Nat.lt_of_lt_of_le (Heap.lt_size ho) (lo c hc)) (Nat.lt_irrefl _)
theorem Own.cap {pins : List (Addr × Obj)} {σ : L2.St} {H : Hp} {s : Shared} (w : Own X cl fr js) (I : Inv X pins σ H s) : Cap cl fr (js.map (slotAt σ)) (ovr (adr cl) (celT s.heap) H) := by
  have C := cells_of I (w.caps I.ok)
  refine ⟨C.len, fun c hc => ?_, C.inj, fun i y hy => ?_⟩
  · obtain ⟨y, e⟩ := w.mem I.ok c hc
    obtain ⟨v, o, ho, hd⟩ := I.cell y c e
    exact ⟨o, v, by rw [ovr_in hc]; exact celT_at ho, hd⟩
  · obtain ⟨c, hc, hv⟩ := C.has i y hy
    refine ⟨c, hc, fun v ev => ?_⟩
    obtain ⟨u, r, o, ho, hd⟩ := hv v ev
    exact ⟨o, u, by rw [ovr_in (adr_look hc)]; exact celT_at ho, hd, r⟩
/-- what a call so made is asked for: sp over the heap with the cells tracked -/
def trkd (cl : List (Str × Addr)) (fr : List Str) (js : List Nat) (sp : Sp) (σ : L2.St) (vs : List V) (H : Hp) (Q : VK) : Prop :=
  ∀ T : Hp, (∀ c ∈ adr cl, H c = none) → Cap cl fr (js.map (slotAt σ)) (ovr (adr cl) T H) → sp vs (ovr (adr cl) T H) (fun v H3 => (∀ c ∈ adr cl, H3 c = T c) ∧ Q v (rm (adr cl) H3)) fun _ _ _ => False
theorem run_trk {pins : List (Addr × Obj)} {σ : L2.St} {H : Hp} {s : Shared} {Q : VK} {f : Addr} {fd : FuncData} {ps : List Str} {args : Args} {us : List Value} {vs : List V} (w : Own X cl fr js) (F : FnOk X.prog X.w X.K X.mg X.base CX k f fd ps sp) (hr : Room k X.A)
    (hE : ∀ H e s', CX X.stack H s (fun _ _ _ => False) e s' → False) (I : Inv X pins σ H s) (hb : BindsTo s fd args (ps.zip us)) (r : Vals vs us) (q : trkd cl fr js sp σ vs H Q) : codeAny (model X.prog X.w) X.A (.call (.ref f) args) (fun r s' => ∃ u, r = .ok (.ret u) ∧ EP X pins σ Q u s') s := by
  have ci := w.cellsIn I
  refine codeAny_mono (F.run X.A X.stack s _ args us vs _ _ hr (ci.env0 I.env0) hb r (q (celT s.heap) ci.no (w.cap I))) fun r s' h => ?_
  cases r with
  | error e => exact (hE _ e s' h).elim
  | ok fl =>
    cases fl with
    | ret u => exact ⟨u, rfl, I.after (ci.back h)⟩
    | next => exact False.elim h
    | brk => exact False.elim h
    | cont => exact False.elim h
def tCallT (cl : List (Str × Addr)) (fr : List Str) (js : List Nat) (sp : Sp) (t : TA) : TE := fun σ H Q => t σ H fun vs H1 => trkd cl fr js sp σ vs H1 Q
/-- f(.., g, ..): g is a function of this frame -/
theorem pe_fnT {n : Nat} (w : Own X cl fr js) (F : Fn X.prog X.w X.K X.mg X.base CX x k n sp) (hr : Room k X.A) (hE : ∀ s H e s', CX X.stack H s (fun _ _ _ => False) e s' → False) (ha : PA X (e :: es) t) (hn : ∀ vs H Q E, sp vs H Q E → vs.length = n) (hg : Gl X x := by rfl) (hdb : (x == ("__debug__" : Str)) = false := by decide)
    (he : starEach (e :: es) X.env = (false, eval e X.env) :: starEach es X.env := by rfl) (hpl : (backTo pos (starEach es X.env)).any (·.1) = false := by rfl) : PE X (.Call (.Name x p) (e :: es) [] pos) (tCallT cl fr js sp t) := by
  obtain ⟨f, fd, ps, h1, h2, h3, h4, h5⟩ := F.ex
  refine ⟨fun pins s σ H Q I h => ?_⟩
  refine wpAny_Call_Name_kw (ld_glob I hg h1 ?_ hdb)
  refine PySem.W.callWith_K (first := []) (h₀ := X.base) I.ok.mod.kin h2 (thn (ha.run pos pins s σ H _ I h) fun us s2 ⟨vs, H2, I2, r, q⟩ => ⟨I2.kIn, ?_⟩) he hpl
  have ci := w.cellsIn I2
  have hl : us.length = ps.length := by
    rw [← r.length, h3]
    exact hn _ _ _ _ (q (celT s2.heap) ci.no (w.cap I2))
  have hb := h4 s2 us I2.kIn (by rw [List.append_nil]; exact hl)
  rw [List.append_nil] at hb
  refine wpAny_call (codeAny_mono (run_trk w h5 hr (hE s2) I2 hb r q) fun r s' ⟨u, e, z⟩ => ?_)
  subst e
  exact z
/-- f(k = e, ..), by keywords alone -/
def tCallK0 (m : Nat) (sw : {α : Type} → List α → List α) (sp : Sp) (E : XK) (tk : TA) : TE := fun σ H Q => tk σ H fun vs H1 => vs.length = m ∧ sp (sw vs) H1 Q E
def tCallTK (m : Nat) (sw : {α : Type} → List α → List α) (cl : List (Str × Addr)) (fr : List Str) (js : List Nat) (sp : Sp) (tk : TA) : TE := fun σ H Q => tk σ H fun vs H1 => vs.length = m ∧ trkd cl fr js sp σ (sw vs) H1 Q
theorem pe_fnK0 {m : Nat} {sw : {α : Type} → List α → List α} {E : XK} (F : FnK X.prog X.w X.K X.mg X.base CX x k m ks sw sp) (hr : Room k X.A) (hx : Passes CX X E) (hkw : PK X kws tk) (hg : Gl X x := by rfl)
    (hall : (backToKw pos (keywordEach kws X.env)).all (·.1.isSome) = true := by rfl) (hks : (backToKw pos (keywordEach kws X.env)).filterMap (·.1) = ks := by rfl) (hdb : (x == ("__debug__" : Str)) = false := by decide)
    (hpl : ((backTo pos (starEach [] X.env)).any (·.1) || (backToKw pos (keywordEach kws X.env)).any (·.1.isNone)) = false := by rfl) : PE X (.Call (.Name x p) [] kws pos) (tCallK0 m sw sp E tk) := by
  obtain ⟨f, fd, ps, h1, h2, h3, h4, h5, h6, h7, h8⟩ := F.ex
  refine ⟨fun pins s σ H Q I h => ?_⟩
  refine wpAny_Call_Name_kw (ld_glob I hg h1 ?_ hdb)
  refine PySem.W.callWith_KW0 (h₀ := X.base) I.ok.mod.kin h2 hall (thn (hkw.run pos pins s σ H _ I h) fun ws s2 ⟨zs, H2, I2, rz, hl, q⟩ => ⟨I2.kIn, ?_⟩) hpl
  rw [hks]
  have hw : ws.length = m := rz.length.symm.trans hl
  refine wpAny_call (codeAny_mono (h8.run X.A X.stack s2 H2 _ (sw ws) (sw zs) Q E hr I2.env0 (h5 s2 ws hw) (h6 rz) q) fun r s' hq => ?_)
  cases r with
  | error e => exact hx pins σ H2 s2 e s' I2 hq
  | ok fl =>
    cases fl with
    | ret u => exact I2.after hq
    | next => exact False.elim hq
    | brk => exact False.elim hq
    | cont => exact False.elim hq
theorem pe_fnTK {m : Nat} {sw : {α : Type} → List α → List α} (w : Own X cl fr js) (F : FnK X.prog X.w X.K X.mg X.base CX x k m ks sw sp) (hr : Room k X.A) (hE : ∀ s H e s', CX X.stack H s (fun _ _ _ => False) e s' → False) (hkw : PK X kws tk) (hg : Gl X x := by rfl)
    (hall : (backToKw pos (keywordEach kws X.env)).all (·.1.isSome) = true := by rfl) (hks : (backToKw pos (keywordEach kws X.env)).filterMap (·.1) = ks := by rfl) (hdb : (x == ("__debug__" : Str)) = false := by decide)
    (hpl : ((backTo pos (starEach [] X.env)).any (·.1) || (backToKw pos (keywordEach kws X.env)).any (·.1.isNone)) = false := by rfl) : PE X (.Call (.Name x p) [] kws pos) (tCallTK m sw cl fr js sp tk) := by
  obtain ⟨f, fd, ps, h1, h2, h3, h4, h5, h6, h7, h8⟩ := F.ex
  refine ⟨fun pins s σ H Q I h => ?_⟩
  refine wpAny_Call_Name_kw (ld_glob I hg h1 ?_ hdb)
  refine PySem.W.callWith_KW0 (h₀ := X.base) I.ok.mod.kin h2 hall (thn (hkw.run pos pins s σ H _ I h) fun ws s2 ⟨zs, H2, I2, rz, hl, q⟩ => ⟨I2.kIn, ?_⟩) hpl
  rw [hks]
  have hw : ws.length = m := rz.length.symm.trans hl
  refine wpAny_call (codeAny_mono (run_trk w h8 hr (hE s2) I2 (h5 s2 ws hw) (h6 rz) q) fun r s' ⟨u, e, z⟩ => ?_)
  subst e
  exact z
theorem cx_no {P : Program} {w : World} {outer : List Env} {H : Hp} {s s' : Shared} {e : Value} (h : L2.CX P w outer H s (fun _ _ _ => False) e s') : False := by
  obtain ⟨_, _, _, _, _, _, _, _, _, _, _, _, q⟩ := h
  exact q
end
end PD
set_option Elab.async false
set_option linter.all false
set_option maxRecDepth 100000
set_option maxHeartbeats 4000000
/-! PdW: the law's world: a stream that is drawn from, tables of code objects; readings that may draw -/
namespace PD
open PySem PySem.Spec PyProof.Rows L2 NdefX LamX
theorem TabX.up2 {Z : List Addr} {H H' : Hp} (e : ∀ a ps, H a = some (.tbl ps) → H' a = some (.tbl ps)) (ec : ∀ a φ, H a = some (.ext φ) → H' a = some (.ext φ)) : ∀ (qs : List Str) (T : Addr), TabX Z H qs T → TabX Z H' qs T
  | [], _, _ => trivial
  | q :: qs, T, ⟨ps, h1, h2, h3⟩ => ⟨ps, e _ _ h1, h2, fun pos cv hc => by
    obtain ⟨c, T', a1, a2, a3, a4, a5⟩ := h3 pos cv hc
    exact ⟨c, T', a1, ec _ _ a2, a3, fun n => let ⟨p, x⟩ := a4 n; ⟨p, e _ _ x⟩, TabX.up2 e ec qs T' a5⟩⟩
theorem tabsN_up2 {T : List NTab} {H H' : Hp} (e : ∀ a ps, H a = some (.tbl ps) → H' a = some (.tbl ps)) (ec : ∀ a φ, H a = some (.ext φ) → H' a = some (.ext φ)) (t : TabsN T H) : TabsN T H' := fun p hp => by
  obtain ⟨ps, h1, h2, h3⟩ := t p hp
  refine ⟨ps, e _ _ h1, h2, fun pos cv hc => ?_⟩
  obtain ⟨c, e1, e2⟩ := h3 pos cv hc
  exact ⟨c, e1, ec _ _ e2⟩
/-- the tables of the law's makers of functions -/
structure Tb where
  T : List (Addr × List Str)
  TN : List NTab
def Tb.Z (t : Tb) : List Addr := t.T.map (·.1) ++ t.TN.map (·.1)
/-- the stream at st, its cells at ce -/
structure Wl where
  t : Tb
  st : Addr
  ce : Addr
/-- at most n draws so far -/
structure WOk (W : Wl) (n : Nat) (H : Hp) : Prop where
  ne : W.st ≠ W.ce
  str : ∃ (cells : List Int) (pend acc : Int) (cnt : Nat), H W.st = some (.lst [.ref W.ce, .int pend, .int cnt, .int acc]) ∧ H W.ce = some (.lst (cells.map .int)) ∧ 0 ≤ pend ∧ 0 ≤ acc ∧ acc < 2147483647 ∧ cnt ≤ n
  tab : ∀ p ∈ W.t.T, (∃ ps, H p.1 = some (.tbl ps)) ∧ TabX W.t.Z H p.2 p.1
  tn : TabsN W.t.TN H
/-- what the law's world lets stand -/
def Kp (W : Wl) (a : Addr) (o : HO) : Prop := a ≠ W.st ∧ a ≠ W.ce ∧ ∀ ps, o ≠ .tbl ps
def Cl (W : Wl) (G : Hp) : Prop := ∀ a o, G a = some o → Kp W a o
structure ExtW (W : Wl) (G H G' H' : Hp) : Prop where
  hh : ∀ a o, H a = some o → Kp W a o → H' a = some o
  dom : ∀ a, H' a = none → H a = none
  gg : Same G G'
  gh : Same G' H'
  fr : ∀ a, G' a ≠ none → G a ≠ none ∨ H a = none
  cl : Cl W G'
section
variable {W : Wl} {n m : Nat} {G G1 G' H H1 H' : Hp} {a : Addr} {v : V} {d : PyData}
theorem WOk.mono (w : WOk W n H) (h : n ≤ m) : WOk W m H := by
  obtain ⟨ne, ⟨cells, pend, acc, cnt, h1, h2, h3, h4, h5, h6⟩, tb, tn⟩ := w
  exact ⟨ne, ⟨cells, pend, acc, cnt, h1, h2, h3, h4, h5, Nat.le_trans h6 h⟩, tb, tn⟩
theorem WOk.up (w : WOk W n H) (e : Same H H') : WOk W n H' := by
  obtain ⟨ne, ⟨cells, pend, acc, cnt, h1, h2, r⟩, tb, tn⟩ := w
  exact ⟨ne, ⟨cells, pend, acc, cnt, e _ _ h1, e _ _ h2, r⟩, fun p hp => let ⟨⟨ps, x⟩, y⟩ := tb p hp; ⟨⟨ps, e _ _ x⟩, TabX.up e _ _ y⟩, tabsN_up2 (fun a ps h => e _ _ h) (fun a φ h => e _ _ h) tn⟩
theorem WOk.put {xs ys : List V} (w : WOk W n H) (hp : H a = some (.lst xs)) (h1 : a ≠ W.st) (h2 : a ≠ W.ce) : WOk W n (upd H a (.lst ys)) := by
  have e : ∀ b u, H b = some u → (∀ zs, u ≠ .lst zs) → upd H a (.lst ys) b = some u := fun b u q z => by
    rw [upd_ne fun y => by rw [y, hp] at q; exact z _ (Option.some.inj q).symm]; exact q
  obtain ⟨ne, ⟨cells, pend, acc, cnt, k1, k2, r⟩, tb, tn⟩ := w
  refine ⟨ne, ⟨cells, pend, acc, cnt, by rw [upd_ne h1.symm]; exact k1, by rw [upd_ne h2.symm]; exact k2, r⟩, fun p hp => let ⟨⟨ps, x⟩, y⟩ := tb p hp; ⟨⟨ps, e _ _ x fun _ z => nomatch z⟩, TabX.up2 (fun a ps h => e _ _ h fun _ z => nomatch z) (fun a φ h => e _ _ h fun _ z => nomatch z) _ _ y⟩,
    tabsN_up2 (fun a ps h => e _ _ h fun _ z => nomatch z) (fun a φ h => e _ _ h fun _ z => nomatch z) tn⟩
theorem WOk.here (w : WOk W n H) : H W.st ≠ none ∧ H W.ce ≠ none := by
  obtain ⟨cells, pend, acc, cnt, k1, k2, _⟩ := w.str
  exact ⟨by rw [k1]; simp, by rw [k2]; simp⟩
theorem WOk.off (w : WOk W n H) (h : H a = none) : a ≠ W.st ∧ a ≠ W.ce := ⟨fun z => w.here.1 (z ▸ h), fun z => w.here.2 (z ▸ h)⟩
theorem ExtW.refl (h : Same G H) (c : Cl W G) : ExtW W G H G H := ⟨fun _ _ e _ => e, fun _ e => e, Same.refl _, h, fun _ h => .inl h, c⟩
theorem ExtW.trans {G2 H2 : Hp} (a : ExtW W G H G1 H1) (b : ExtW W G1 H1 G2 H2) : ExtW W G H G2 H2 :=
  ⟨fun x o e k => b.hh x o (a.hh x o e k) k, fun x e => a.dom x (b.dom x e), a.gg.trans b.gg, b.gh, fun x h => (b.fr x h).elim (fun q => a.fr x q) fun q => .inr (a.dom x q), b.cl⟩
/-! data without tables -/
def noTb (G : Hp) : Hp := fun a => match G a with
  | some (.lst xs) => some (.lst xs)
  | some (.tup xs) => some (.tup xs)
  | some (.dK ks) => some (.dK ks)
  | _ => none
theorem noTb_some {o : HO} (h : noTb G a = some o) : G a = some o ∧ ∀ ps, o ≠ .tbl ps := by
  unfold noTb at h
  split at h <;> first | (cases h; exact ⟨by assumption, fun _ z => nomatch z⟩) | cases h
theorem noTb_lst {xs : List V} (h : G a = some (.lst xs)) : noTb G a = some (.lst xs) := by unfold noTb; rw [h]
theorem noTb_tup {xs : List V} (h : G a = some (.tup xs)) : noTb G a = some (.tup xs) := by unfold noTb; rw [h]
theorem noTb_dK {ks : List (Key × V)} (h : G a = some (.dK ks)) : noTb G a = some (.dK ks) := by unfold noTb; rw [h]
mutual
theorem Dq.thin (e1 : ∀ a xs, G a = some (.lst xs) → G1 a = some (.lst xs)) (e2 : ∀ a xs, G a = some (.tup xs) → G1 a = some (.tup xs)) (e3 : ∀ a ks, G a = some (.dK ks) → G1 a = some (.dK ks)) : ∀ (d : PyData) (v : V), Dq G v d → Dq G1 v d
  | .none, _, h => by cases h; exact .non
  | .bool b, _, h => by cases h; exact .bl b
  | .int i, _, h => by cases h; exact .int i
  | .str x, _, h => by cases h; exact .str x
  | .list ds, _, h => by
    cases h with
    | lst h1 h2 => exact .lst (e1 _ _ h1) (DqAll.thin e1 e2 e3 ds _ h2)
  | .tuple ds, _, h => by
    cases h with
    | tup h1 h2 => exact .tup (e2 _ _ h1) (DqAll.thin e1 e2 e3 ds _ h2)
  | .dict _, _, h => by
    cases h with
    | dict h1 => exact .dict (e3 _ _ h1)
theorem DqAll.thin (e1 : ∀ a xs, G a = some (.lst xs) → G1 a = some (.lst xs)) (e2 : ∀ a xs, G a = some (.tup xs) → G1 a = some (.tup xs)) (e3 : ∀ a ks, G a = some (.dK ks) → G1 a = some (.dK ks)) : ∀ (ds : List PyData) (vs : List V), DqAll G vs ds → DqAll G1 vs ds
  | [], _, h => by cases h; exact .nil
  | d :: ds, _, h => by
    cases h with
    | cons h1 h2 => exact .cons (Dq.thin e1 e2 e3 d _ h1) (DqAll.thin e1 e2 e3 ds _ h2)
end
theorem Dq.noTb (h : Dq G v d) : Dq (noTb G) v d := Dq.thin (fun _ _ => noTb_lst) (fun _ _ => noTb_tup) (fun _ _ => noTb_dK) d v h
theorem DqAll.noTb {vs : List V} {ds : List PyData} (h : DqAll G vs ds) : DqAll (noTb G) vs ds := DqAll.thin (fun _ _ => noTb_lst) (fun _ _ => noTb_tup) (fun _ _ => noTb_dK) ds vs h
/-- a growth alone is one in the law's world; the frozen part without tables, the old one kept -/
def joinG (G G' : Hp) : Hp := fun a => match G a with
  | some o => some o
  | none => noTb G' a
theorem joinG_dq (e : Same G G') (h : Dq G' v d) : Dq (joinG G G') v d := by
  have k : ∀ a o, PD.noTb G' a = some o → joinG G G' a = some o := fun a o q => by
    unfold joinG
    cases z : G a with
    | none => exact q
    | some u =>
      have q2 := (noTb_some q).1
      rw [e _ _ z] at q2
      exact q2
  exact h.noTb.up k
theorem joinG_all (e : Same G G') {vs : List V} {ds : List PyData} (h : DqAll G' vs ds) : DqAll (joinG G G') vs ds := by
  have k : ∀ a o, PD.noTb G' a = some o → joinG G G' a = some o := fun a o q => by
    unfold joinG
    cases z : G a with
    | none => exact q
    | some u =>
      have q2 := (noTb_some q).1
      rw [e _ _ z] at q2
      exact q2
  exact h.noTb.up k
theorem Ext.w (x : Ext G H G' H') (c : Cl W G) (w : WOk W n H) : ExtW W G H (joinG G G') H' := by
  refine ⟨fun a o e _ => x.hh _ _ e, fun a e => x.hh.free e, fun a o e => ?_, fun a o e => ?_, fun a e => ?_, fun a o e => ?_⟩
  · unfold joinG; rw [e]
  · unfold joinG at e
    cases z : G a with
    | none => rw [z] at e; exact x.gh _ _ (noTb_some e).1
    | some u => rw [z] at e; cases e; exact x.gh _ _ (x.gg _ _ z)
  · unfold joinG at e
    cases z : G a with
    | none =>
      rw [z] at e
      cases q : PD.noTb G' a with
      | none => exact absurd q e
      | some u =>
        rcases x.fr a (by rw [(noTb_some q).1]; simp) with y | y
        · exact absurd z y
        · exact .inr y
    | some u => exact .inl (by simp)
  · unfold joinG at e
    cases z : G a with
    | none =>
      rw [z] at e
      obtain ⟨q1, q2⟩ := noTb_some e
      rcases x.fr a (by rw [q1]; simp) with y | y
      · exact absurd z y
      · exact ⟨(w.off y).1, (w.off y).2, q2⟩
    | some u => rw [z] at e; cases e; exact c _ _ z
/-- a greater frozen part -/
theorem ExtW.lift (hG : Same G G1) (c1 : Cl W G1) (h1 : Same G1 H) (e : ExtW W G H G' H') : ∃ G2, ExtW W G1 H G2 H' ∧ Same G' G2 := by
  refine ⟨fun a => match G1 a with | some o => some o | none => G' a, ⟨e.hh, e.dom, fun b u q => ?_, fun b u q => ?_, fun b q => ?_, fun b u q => ?_⟩, fun b u q => ?_⟩
  · show (match G1 b with | some o => some o | none => G' b) = some u
    rw [q]
  · have q : (match G1 b with | some o => some o | none => G' b) = some u := q
    cases z : G1 b with
    | some o => rw [z] at q; cases q; exact e.hh _ _ (h1 _ _ z) (c1 _ _ z)
    | none => rw [z] at q; exact e.gh _ _ q
  · have q : (match G1 b with | some o => some o | none => G' b) ≠ none := q
    cases z : G1 b with
    | some o => exact .inl (by simp)
    | none =>
      rw [z] at q
      rcases e.fr b q with y | y
      · cases w : G b with
        | none => exact absurd w y
        | some o => rw [hG _ _ w] at z; cases z
      · exact .inr y
  · have q : (match G1 b with | some o => some o | none => G' b) = some u := q
    cases z : G1 b with
    | some o => rw [z] at q; cases q; exact c1 _ _ z
    | none => rw [z] at q; exact e.cl _ _ q
  · show (match G1 b with | some o => some o | none => G' b) = some u
    cases z : G1 b with
    | some o =>
      have a1 := e.hh _ _ (h1 _ _ z) (c1 _ _ z)
      rw [e.gh _ _ q] at a1
      exact a1.symm
    | none => exact q
end
/-! ### readings that may draw -/
abbrev lim : Nat := 2 ^ 40
def PN (W : Wl) (t : TE) (σ : L2.St) (G : Hp) (c : Nat) (D : PyData → Prop) : Prop := ∀ (H : Hp) (n : Nat) (Q : VK), Same G H → Cl W G → WOk W n H → n + c ≤ lim → (∀ d v G' H', D d → ExtW W G H G' H' → WOk W (n + c) H' → Dq G' v d → Q v H') → t σ H Q
def PNA (W : Wl) (t : TA) (σ : L2.St) (G : Hp) (c : Nat) (D : List PyData → Prop) : Prop := ∀ (H : Hp) (n : Nat) (Q : List V → Hp → Prop), Same G H → Cl W G → WOk W n H → n + c ≤ lim → (∀ ds vs G' H', D ds → ExtW W G H G' H' → WOk W (n + c) H' → DqAll G' vs ds → Q vs H') → t σ H Q
section
variable {W : Wl} {σ : L2.St} {G G1 : Hp} {c c1 c2 : Nat} {D D' : PyData → Prop} {DS DS' : List PyData → Prop} {te ta tb : TE} {t : TA} {d : PyData} {ds : List PyData} {tt : TT} {b : Bool}
theorem PN.mono (h : PN W te σ G c D) (e : Same G G1) : PN W te σ G1 c D := fun H n Q hs hc hw hl k => h H n Q (e.trans hs) (fun a o q => hc a o (e _ _ q)) hw hl fun d v G' H' hd x hw' dv => by
  obtain ⟨G2, y, z⟩ := x.lift e hc hs
  exact k d v G2 H' hd y hw' (dv.up z)
theorem PNA.mono (h : PNA W t σ G c DS) (e : Same G G1) : PNA W t σ G1 c DS := fun H n Q hs hc hw hl k => h H n Q (e.trans hs) (fun a o q => hc a o (e _ _ q)) hw hl fun d v G' H' hd x hw' dv => by
  obtain ⟨G2, y, z⟩ := x.lift e hc hs
  exact k d v G2 H' hd y hw' (dv.up z)
theorem PN.imp (h : PN W te σ G c D) (hc : c ≤ c1) (hd : ∀ d, D d → D' d) : PN W te σ G c1 D' := fun H n Q hs cl hw hl k => h H n Q hs cl hw (by omega) fun d v G' H' x1 x2 x3 x4 => k d v G' H' (hd d x1) x2 (x3.mono (by omega)) x4
theorem PNA.imp (h : PNA W t σ G c DS) (hc : c ≤ c1) (hd : ∀ d, DS d → DS' d) : PNA W t σ G c1 DS' := fun H n Q hs cl hw hl k => h H n Q hs cl hw (by omega) fun d v G' H' x1 x2 x3 x4 => k d v G' H' (hd d x1) x2 (x3.mono (by omega)) x4
theorem PN_of (h : PR te σ G d) : PN W te σ G 0 (· = d) := fun H n Q hs cl hw hl k => h H Q hs fun v G' H' x dv => k d v _ H' rfl (x.w cl hw) (hw.up x.hh) (joinG_dq x.gg dv)
theorem PNA_of (h : PRA t σ G ds) : PNA W t σ G 0 (· = ds) := fun H n Q hs cl hw hl k => h H Q hs fun v G' H' x dv => k ds v _ H' rfl (x.w cl hw) (hw.up x.hh) (joinG_all x.gg dv)
theorem PNA_nil : PNA W tNil σ G 0 (· = []) := PNA_of PRA_nil
theorem PNA_cons (h : PN W te σ G c1 D) (r : PNA W t σ G c2 DS) : PNA W (tCons te t) σ G (c1 + c2) (fun l => ∃ a as, l = a :: as ∧ D a ∧ DS as) := fun H n Q hs cl hw hl k =>
  h H n _ hs cl hw (by omega) fun d v G1 H1 hd x hw1 dv => (r.mono x.gg) H1 (n + c1) _ x.gh x.cl hw1 (by omega) fun ds vs G2 H2 hds y hw2 dvs => k _ _ G2 H2 ⟨d, ds, rfl, hd, hds⟩ (x.trans y) (by rw [Nat.add_assoc] at hw2; exact hw2) (.cons (dv.up y.gg) dvs)
/-- by values -/
theorem PN_CB {r : List V → Hp → VK → Prop} (hr : ∀ ds, DS ds → ∃ d, D d ∧ RR r ds d) (h : PNA W t σ G c DS) : PN W (tCB r t) σ G c D := fun H n Q hs cl hw hl k =>
  h H n _ hs cl hw hl fun ds vs G1 H1 hds x hw1 dvs => by
    obtain ⟨d, hd, hrr⟩ := hr ds hds
    exact hrr vs G1 H1 Q x.gh dvs fun v G2 H2 y dv => k d v _ H2 hd (x.trans (y.w x.cl hw1)) (hw1.up y.hh) (joinG_dq y.gg dv)
theorem PN_op {r : R2} {D1 D2 : PyData → Prop} (hr : ∀ a b, D1 a → D2 b → ∃ d, D d ∧ RR2 r a b d) (h1 : PN W ta σ G c1 D1) (h2 : PN W tb σ G c2 D2) : PN W (tOp r ta tb) σ G (c1 + c2) D := fun H n Q hs cl hw hl k =>
  h1 H n _ hs cl hw (by omega) fun d1 x G1 H1 hd1 e1 hw1 dx => (h2.mono e1.gg) H1 (n + c1) _ e1.gh e1.cl hw1 (by omega) fun d2 y G2 H2 hd2 e2 hw2 dy => by
    obtain ⟨d, hd, hrr⟩ := hr d1 d2 hd1 hd2
    rw [Nat.add_assoc] at hw2
    exact hrr x y G2 H2 Q e2.gh (dx.up e2.gg) dy fun v G3 H3 e3 dv => k d v _ H3 hd ((e1.trans e2).trans (e3.w e2.cl hw2)) (hw2.up e3.hh) (joinG_dq e3.gg dv)
theorem PN_lst (h : PNA W t σ G c DS) (hd : ∀ ds, DS ds → ds.length ≤ sizeLine ∧ D (.list ds)) : PN W (tLst t) σ G c D := fun H n Q hs cl hw hl k =>
  h H n _ hs cl hw hl fun ds vs G1 H1 hds x hw1 dvs => by
    refine ⟨by rw [dvs.len]; exact (hd ds hds).1, fun p hp => ?_⟩
    have y : Ext G1 H1 (upd G1 p (.lst vs)) (upd H1 p (.lst vs)) := .new x.gh hp
    exact k _ (.ref p) _ _ (hd ds hds).2 (x.trans (y.w x.cl hw1)) (hw1.up y.hh) (joinG_dq y.gg (.lst upd_same (dvs.up y.gg)))
theorem PN_tup (h : PNA W t σ G c DS) (hd : ∀ ds, DS ds → ds.length ≤ sizeLine ∧ D (.tuple ds)) : PN W (tTup t) σ G c D := fun H n Q hs cl hw hl k =>
  h H n _ hs cl hw hl fun ds vs G1 H1 hds x hw1 dvs => by
    refine ⟨by rw [dvs.len]; exact (hd ds hds).1, fun p hp => ?_⟩
    have y : Ext G1 H1 (upd G1 p (.tup vs)) (upd H1 p (.tup vs)) := .new x.gh hp
    exact k _ (.ref p) _ _ (hd ds hds).2 (x.trans (y.w x.cl hw1)) (hw1.up y.hh) (joinG_dq y.gg (.tup upd_same (dvs.up y.gg)))
theorem PN_if {tc : TT} (h : TR tc σ G b) (ht : b = true → PN W ta σ G c D) (hf : b = false → PN W tb σ G c D) : PN W (tIf tc ta tb) σ G c D := fun H n Q hs cl hw hl k => h H _ hs fun H1 e => by
  have y := (Ext.more hs e)
  cases b with
  | true => exact iteT (ht rfl H1 n Q (hs.trans e) cl (hw.up e) hl fun d v G2 H2 hd x hw2 dv => k d v G2 H2 hd ⟨fun a o q z => x.hh a o (e _ _ q) z, fun a q => e.free (x.dom a q), x.gg, x.gh, fun a q => (x.fr a q).elim .inl fun z => .inr (e.free z), x.cl⟩ hw2 dv)
  | false => exact iteF (hf rfl H1 n Q (hs.trans e) cl (hw.up e) hl fun d v G2 H2 hd x hw2 dv => k d v G2 H2 hd ⟨fun a o q z => x.hh a o (e _ _ q) z, fun a q => e.free (x.dom a q), x.gg, x.gh, fun a q => (x.fr a q).elim .inl fun z => .inr (e.free z), x.cl⟩ hw2 dv)
/-! ### the promises of such defs -/
/-- data in, data out; pr: what is asked of the arguments, c: how many draws at most -/
def spW (t : Tb) (c : List PyData → Nat) (pr : List PyData → Prop) (D : List PyData → PyData → Prop) : Sp := fun vs H Q _ => ∃ W G ds n, W.t = t ∧ Same G H ∧ Cl W G ∧ WOk W n H ∧ n + c ds ≤ lim ∧ DqAll G vs ds ∧ pr ds ∧
  ∀ d v G' H', D ds d → ExtW W G H G' H' → WOk W (n + c ds) H' → Dq G' v d → Q v H'
/-- the stream first -/
def spS (t : Tb) (c : List PyData → Nat) (pr : List PyData → Prop) (D : List PyData → PyData → Prop) : Sp := fun vs H Q _ => ∃ W G ds n us, W.t = t ∧ vs = .ref W.st :: us ∧ Same G H ∧ Cl W G ∧ WOk W n H ∧ n + c ds ≤ lim ∧ DqAll G us ds ∧ pr ds ∧
  ∀ d v G' H', D ds d → ExtW W G H G' H' → WOk W (n + c ds) H' → Dq G' v d → Q v H'
theorem PN_call {cc : List PyData → Nat} {pr : List PyData → Prop} {DD : List PyData → PyData → Prop} {E : XK} (h : PNA W t σ G c1 DS) (hp : ∀ ds, DS ds → pr ds ∧ cc ds ≤ c2 ∧ ∀ d, DD ds d → D d) : PN W (tCall (spW W.t cc pr DD) [] E t) σ G (c1 + c2) D := fun H n Q hs cl hw hl k =>
  h H n _ hs cl hw (by omega) fun ds vs G1 H1 hds x hw1 dvs => by
    obtain ⟨p1, p2, p3⟩ := hp ds hds
    exact ⟨W, G1, ds, n + c1, rfl, x.gh, x.cl, hw1, by omega, by rw [List.append_nil]; exact dvs, p1, fun d v G2 H2 hd y hw2 dv => k d v G2 H2 (p3 d hd) (x.trans y) (hw2.mono (by omega)) dv⟩
theorem PN_callS {i : Nat} {cc : List PyData → Nat} {pr : List PyData → Prop} {DD : List PyData → PyData → Prop} {E : XK} (hσ : σ[i]? = some (some (.ref W.st))) (h : PNA W t σ G c1 DS) (hp : ∀ ds, DS ds → pr ds ∧ cc ds ≤ c2 ∧ ∀ d, DD ds d → D d) :
    PN W (tCall (spS W.t cc pr DD) [] E (tCons (tVar i) t)) σ G (c1 + c2) D := fun H n Q hs cl hw hl k => by
  refine ⟨_, hσ, h H n _ hs cl hw (by omega) fun ds vs G1 H1 hds x hw1 dvs => ?_⟩
  obtain ⟨p1, p2, p3⟩ := hp ds hds
  exact ⟨W, G1, ds, n + c1, vs, rfl, by rw [List.append_nil], x.gh, x.cl, hw1, by omega, dvs, p1, fun d v G2 H2 hd y hw2 dv => k d v G2 H2 (p3 d hd) (x.trans y) (hw2.mono (by omega)) dv⟩
end
end PD
set_option Elab.async false
set_option linter.all false
set_option maxRecDepth 100000
set_option maxHeartbeats 4000000
/-! K48d: the stream: _law_stream, _law_draw, _law_mixed -/
namespace K48
open PySem PySem.Spec PyProof.Rows L2 PD StX RZ NdefX LamX
abbrev sStream : Stmt := top 20
abbrev sDraw : Stmt := top 21
abbrev sMixed : Stmt := top 22
section
variable {P : Program} {w : World} {K : PySem.W.Frag} {mg : Str → Option Value} {base : Heap} {t : Tb} {W : Wl} {n m : Nat} {G H H0 : Hp}
/-- the stream's list written -/
theorem WOk_set {cells : List Int} {pend acc : Int} {cnt : Nat} (w : WOk W n H) (h1 : H W.ce = some (.lst (cells.map .int))) (h3 : 0 ≤ pend) (h4 : 0 ≤ acc) (h5 : acc < 2147483647) (h6 : cnt ≤ m) :
    WOk W m (upd H W.st (.lst [.ref W.ce, .int pend, .int cnt, .int acc])) := by
  obtain ⟨ne, ⟨c0, p0, a0, n0, k1, k2, r⟩, tb, tn⟩ := w
  have e : ∀ b u, H b = some u → (∀ zs, u ≠ .lst zs) → upd H W.st (.lst [.ref W.ce, .int pend, .int cnt, .int acc]) b = some u := fun b u q z => by
    rw [upd_ne fun y => by rw [y, k1] at q; exact z _ (Option.some.inj q).symm]; exact q
  refine ⟨ne, ⟨cells, pend, acc, cnt, upd_same, by rw [upd_ne ne.symm]; exact h1, h3, h4, h5, h6⟩, fun p hp => ?_, tabsN_up2 (fun a ps h => e _ _ h fun _ z => nomatch z) (fun a φ h => e _ _ h fun _ z => nomatch z) tn⟩
  obtain ⟨⟨ps, x⟩, y⟩ := tb p hp
  exact ⟨⟨ps, e _ _ x fun _ z => nomatch z⟩, TabX.up2 (fun a ps h => e _ _ h fun _ z => nomatch z) (fun a φ h => e _ _ h fun _ z => nomatch z) _ _ y⟩
theorem WOk_cells {cells : List Int} (w : WOk W n H) : WOk W n (upd H W.ce (.lst (cells.map .int))) := by
  obtain ⟨ne, ⟨c0, p0, a0, n0, k1, k2, r⟩, tb, tn⟩ := w
  have e : ∀ b u, H b = some u → (∀ zs, u ≠ .lst zs) → upd H W.ce (.lst (cells.map .int)) b = some u := fun b u q z => by
    rw [upd_ne fun y => by rw [y, k2] at q; exact z _ (Option.some.inj q).symm]; exact q
  refine ⟨ne, ⟨cells, p0, a0, n0, by rw [upd_ne ne]; exact k1, upd_same, r⟩, fun p hp => ?_, tabsN_up2 (fun a ps h => e _ _ h fun _ z => nomatch z) (fun a φ h => e _ _ h fun _ z => nomatch z) tn⟩
  obtain ⟨⟨ps, x⟩, y⟩ := tb p hp
  exact ⟨⟨ps, e _ _ x fun _ z => nomatch z⟩, TabX.up2 (fun a ps h => e _ _ h fun _ z => nomatch z) (fun a φ h => e _ _ h fun _ z => nomatch z) _ _ y⟩
theorem ExtW_put {a : Addr} {o : HO} (e : ExtW W G H0 G H) (h : a = W.st ∨ a = W.ce) : ExtW W G H0 G (upd H a o) := by
  have ne : ∀ b u, Kp W b u → b ≠ a := fun b u k z => by
    rcases h with h | h
    · exact k.1 (z.trans h)
    · exact k.2.1 (z.trans h)
  refine ⟨fun b u q k => by rw [upd_ne (ne b u k)]; exact e.hh b u q k, fun b q => e.dom b (NdefX.upd_none q), e.gg, fun b u q => ?_, e.fr, e.cl⟩
  rw [upd_ne (ne b u (e.cl b u q))]
  exact e.gh _ _ q
/-! ### _law_draw -/
abbrev nDraw : List Str := ["_law_stream_here", "_law_many", "_law_cell", "_law_digit", "_law_mixed_here"]
theorem scDraw : FnScope nDraw ["_law_stream_here", "_law_many"] (defScope sDraw) := ⟨rfl, rfl, rfl, by decide +kernel, rfl, by decide +kernel, by decide +kernel⟩
def prDraw (ds : List PyData) : Prop := ∃ m : Nat, ds = [.int m] ∧ 0 < m ∧ m < 1073741824
def DDraw (ds : List PyData) (d : PyData) : Prop := ∃ m j : Nat, ds = [.int m] ∧ d = .int j ∧ j < m
theorem int_of_nn {i : Int} (h : 0 ≤ i) : ∃ j : Nat, i = j := ⟨i.toNat, by omega⟩
theorem dq_ints {G : Hp} : ∀ cells : List Int, DqAll G (cells.map .int) (cells.map .int)
  | [] => .nil
  | i :: r => .cons (.int i) (dq_ints r)
theorem lay_ints : ∀ cells : List Int, PyData.canLayAll0 (cells.map .int) = true
  | [] => rfl
  | i :: r => by simp [PyData.canLayAll0, PyData.canLay0, lay_ints r]
theorem dep_ints : ∀ cells : List Int, PyData.depthAll (cells.map .int) ≤ 1
  | [] => by simp [PyData.depthAll]
  | i :: r => by
    have := dep_ints r
    simp only [List.map_cons, PyData.depthAll, PyData.depth]
    omega
theorem at4 {a b c d : V} : atI [a, b, c, d] 0 = some a ∧ atI [a, b, c, d] 1 = some b ∧ atI [a, b, c, d] 2 = some c ∧ atI [a, b, c, d] 3 = some d :=
  ⟨atI_nat (j := 0) rfl, atI_nat (j := 1) rfl, atI_nat (j := 2) rfl, atI_nat (j := 3) rfl⟩
/-- how it stands between two turns -/
def DrawI (W : Wl) (G H0 : Hp) (n m c : Nat) (μ : Nat) (σ : L2.St) (H1 : Hp) : Prop := ∃ (cells : List Int) (pend acc : Int) (x2 : Option V), μ = cells.length ∧ σ = [some (.ref W.st), some (.int m), x2, none, none] ∧
  H1 W.st = some (.lst [.ref W.ce, .int pend, .int (c : Int), .int acc]) ∧ H1 W.ce = some (.lst (cells.map .int)) ∧ 0 ≤ pend ∧ 0 ≤ acc ∧ acc < 2147483647 ∧ WOk W (n + 1) H1 ∧ ExtW W G H0 G H1
theorem while_use {c : TT} {tb : TS} {D : Ends} {σ : L2.St} {H : Hp} (Pv : Nat → L2.St → Hp → Prop) (h0 : ∃ μ, Pv μ σ H) (Rv : Bool → Nat → L2.St → Hp → Prop) (hc : ∀ μ σ H Q, Pv μ σ H → (∀ b H1, Rv b μ σ H1 → Q b H1) → c σ H Q)
    (hb : ∀ μ σ H, Rv true μ σ H → tb { D with nx := fun σ' H' => ∃ μ', μ' < μ ∧ Pv μ' σ' H', ct := fun σ' H' => ∃ μ', μ' < μ ∧ Pv μ' σ' H', bk := D.nx } σ H) (hd : ∀ μ σ H, Rv false μ σ H → D.nx σ H) : tWhile c tb D σ H :=
  ⟨Pv, h0, fun μ σ H hp => hc μ σ H _ hp fun b H1 hr => by
    cases b with
    | true => exact iteT ⟨_, fun σ' H' q => q, hb μ σ H1 hr⟩
    | false => exact iteF (hd μ σ H1 hr)⟩
theorem fn_draw (D : Df K mg "_law_draw" sDraw) (m1 : mg "abs" = none) (m2 : mg "int" = none) : Fn P w K mg base CX0 "_law_draw" 1 2 (spS t (fun _ => 1) prDraw DDraw) := by
  refine D.fn scDraw (by rintro vs H Q E ⟨W, G, ds, n, us, ht, rfl, hG, hcl, hw, hl, hd, ⟨m, rfl, hm0, hm⟩, k⟩; have := hd.len; simp at this; simp [this]) rfl (fun _ _ _ _ _ _ us hl => match us, hl with | [_, _], _ => rfl) fun f cdv A outer s H vs Q E hr hsp => ?_
  obtain ⟨W, G, ds, n, us, ht, rfl, hG, hcl, hw, hl, hd, ⟨m, rfl, hm0, hm⟩, k⟩ := hsp
  obtain ⟨u, rfl, du⟩ := hd.one
  cases du
  have hu := hr.u65
  refine ⟨_, pss_cons (ps_asg (pe_op op_add (pe_ix ix_list (pv 0) pe_int (fun _ _ => rfl)) pe_int) (pg_sub (pv 0) pe_int set_list))
    (pss_cons (ps_while PassesOwn.never (PW.pt (pw_and (pt_cmpR op_eq (pe_ix ix_list (pv 0) pe_int (fun _ _ => rfl)) pe_int (nomark _)) (pw_and1 (xt_ne (K := K) hu (pe_ix ix_list (pv 0) pe_int (fun _ _ => rfl)) (pe_lst pa_nil)))))
      (pss_cons (ps_set (i := 2) scDraw.nd rfl (.inl rfl) (pe_callB call_abs rfl m1 (by decide +kernel) (pa_cons (pe_bm PySem.F.plainAttrs_list PySem.F.slot_list_pop PySem.F.type_list_pop mt_popAt (pe_ix ix_list (pv 0) pe_int (fun _ _ => rfl)) (pa_cons pe_int pa_nil)) pa_nil)))
      (pss_cons (ps_asg (pe_op op_mod (pe_callTy call_int1 rfl m2 (by decide +kernel) (pa_cons (pe_op op_add (pe_op op_add (pe_op op_mul (pe_ix ix_list (pv 0) pe_int (fun _ _ => rfl)) pe_int) (pv 2)) pe_int) pa_nil)) pe_int) (pg_sub (pv 0) pe_int set_list))
      (pss_one (ps_asg (pe_ifExp (pt_cmpR op_ge (pv 2) (pe_op op_pow pe_int pe_int) (nomark _)) (pv 2) pe_int) (pg_sub (pv 0) pe_int set_list))))))
    (pss_cons (ps_if (pt_cmpR op_gt (pe_ix ix_list (pv 0) pe_int (fun _ _ => rfl)) pe_int (nomark _))
      (pss_cons (ps_set (i := 3) scDraw.nd rfl (.inl rfl) (pe_op op_mod (pe_callTy call_int1 rfl m2 (by decide +kernel) (pa_cons (pe_ix ix_list (pv 0) pe_int (fun _ _ => rfl)) pa_nil)) (pv 1)))
      (pss_cons (ps_asg (pe_op op_fdiv (pe_ix ix_list (pv 0) pe_int (fun _ _ => rfl)) (pv 1)) (pg_sub (pv 0) pe_int set_list))
      (pss_one (ps_ret (pv 3))))) pss_nil)
    (pss_cons (ps_set (i := 4) scDraw.nd rfl (.inl rfl) (pe_op op_mod (pe_callTy call_int1 rfl m2 (by decide +kernel) (pa_cons (pe_op op_pow (pe_op op_add (pe_op op_add (pe_ix ix_list (pv 0) pe_int (fun _ _ => rfl)) (pe_op op_mul pe_int (pe_ix ix_list (pv 0) pe_int (fun _ _ => rfl)))) pe_int) pe_int) pa_nil)) pe_int))
    (pss_one (ps_ret (pe_op op_mod (pe_op op_mod (pe_callTy call_int1 rfl m2 (by decide +kernel) (pa_cons (pe_op op_pow (pe_op op_add (pe_op op_add (pe_op op_mul (pv 4) pe_int) (pe_op op_mul pe_int (pe_ix ix_list (pv 0) pe_int (fun _ _ => rfl)))) pe_int) pe_int) pa_nil)) pe_int) (pv 1))))))), ?_⟩
  obtain ⟨cells, pend, acc, cnt, k1, k2, b1, b2, b3, b4⟩ := hw.str
  refine ⟨_, rfl, _, _, _, _, rfl, rfl, SqL.of k1, at4.2.2.1, _, _, rfl, rfl, _, rfl, _, _, _, 2, rfl, rfl, k1, rfl, ?_⟩
  have e1 := ExtW_put (o := .lst [.ref W.ce, .int pend, .int (cnt + 1), .int acc]) (ExtW.refl hG hcl) (.inl rfl)
  have hl' : n + 1 ≤ 2 ^ 40 := hl
  refine while_use (fun μ σ H1 => DrawI W G H n m (cnt + 1) μ σ H1) ⟨cells.length, cells, pend, acc, none, rfl, rfl, upd_same, by rw [upd_ne hw.ne.symm]; exact k2, b1, b2, b3, WOk_set (cnt := cnt + 1) hw k2 b1 b2 b3 (Nat.succ_le_succ b4), e1⟩
    (fun b μ σ H1 => DrawI W G H n m (cnt + 1) μ σ H1 ∧ (b = true → ∃ (cells : List Int) (acc : Int), H1 W.ce = some (.lst (cells.map .int)) ∧ cells ≠ [] ∧ H1 W.st = some (.lst [.ref W.ce, .int 0, .int ((cnt + 1 : Nat) : Int), .int acc]))) ?_ ?_ ?_
  · rintro μ σ H1 Q1 hI hQ
    obtain ⟨cells, pend, acc, x2, rfl, rfl, k1, k2, b1, b2, b3, hw1, e1⟩ := id hI
    refine ⟨_, rfl, _, _, _, _, rfl, rfl, SqL.of k1, at4.2.1, rfl, _, rfl, ?_⟩
    by_cases hp : pend = 0
    · subst hp
      refine iteT ⟨_, rfl, _, _, _, _, rfl, rfl, SqL.of k1, at4.1, by show 0 ≤ sizeLine; omega, fun p hp => ?_⟩
      have up := same_new (o := .lst []) hp
      have hne : p ≠ W.ce := fun z => by rw [z, k2] at hp; cases hp
      refine ⟨.list (cells.map .int), .list [], .lst (SqL.of (up _ _ k2)) (DqAll.dp _ _ (dq_ints (G := H1) cells |>.up up) (noDictL_of_lay _ (lay_ints cells))), .lst (SqL.of upd_same) .nil, ?_, by decide +kernel, _, rfl, ?_⟩
      · have := dep_ints cells
        show (PyData.canLay0 _ && decide (PyData.depth _ ≤ 64)) = true
        rw [Bool.and_eq_true]
        refine ⟨by simp [PyData.canLay0, lay_ints], decide_eq_true ?_⟩
        have e : PyData.depth (.list (cells.map .int)) = PyData.depthAll (cells.map .int) + 1 := by simp [PyData.depth]
        rw [e]; omega
      · have e2 : PyData.eqv (.list (cells.map .int)) (.list []) = cells.isEmpty := by cases cells <;> simp [PyData.eqv, PyData.eqvAll]
        rw [e2]
        have hI2 : DrawI W G H n m (cnt + 1) cells.length [some (.ref W.st), some (.int m), x2, none, none] (upd H1 p (.lst [])) := ⟨cells, 0, acc, x2, rfl, rfl, up _ _ k1, up _ _ k2, b1, b2, b3, hw1.up up, ⟨fun a o q z => up _ _ (e1.hh a o q z), fun a q => e1.dom a (up.free q), e1.gg, e1.gh.trans up, e1.fr, e1.cl⟩⟩
        exact hQ _ _ ⟨hI2, fun z => ⟨cells, acc, up _ _ k2, fun q => by subst q; simp at z, up _ _ k1⟩⟩
    · have hd : decide (V.int pend = V.int 0) = false := decide_eq_false fun z => hp (V.int.inj z)
      rw [hd]
      exact iteF (hQ false _ ⟨hI, fun z => by cases z⟩)
  · rintro μ σ H1 ⟨⟨cells, pend, acc, x2, rfl, rfl, k1, k2, b1, b2, b3, hw1, e1⟩, hne⟩
    obtain ⟨cells', acc', j1, j2, j3⟩ := hne rfl
    rw [k1] at j3
    cases j3
    have ec : cells' = cells := by
      rw [k2] at j1
      have q := HO.lst.inj (Option.some.inj j1)
      exact (List.map_inj_right (fun a b e => V.int.inj e)).mp q.symm
    subst ec
    obtain ⟨c0, rest, rfl⟩ := List.exists_cons_of_ne_nil j2
    refine ⟨_, rfl, _, _, _, _, rfl, rfl, SqL.of k1, at4.1, .inl ⟨rfl, _, SqL.of k2⟩, _, _, 0, 0, _, rfl, rfl, k2, by decide, by decide, by simp [seqIndex?], rfl, _, rfl, ?_⟩
    have hw2 : WOk W (n + 1) (upd H1 W.ce (.lst (((c0 :: rest).map V.int).eraseIdx 0))) := WOk_cells (cells := rest) hw1
    have e2 := ExtW_put (o := .lst (((c0 :: rest).map V.int).eraseIdx 0)) e1 (.inr rfl)
    have j1 : (upd H1 W.ce (.lst (((c0 :: rest).map V.int).eraseIdx 0))) W.st = some (.lst [.ref W.ce, .int 0, .int ((cnt + 1 : Nat) : Int), .int acc]) := by rw [upd_ne hw1.ne]; exact k1
    have j2 : (upd H1 W.ce (.lst (((c0 :: rest).map V.int).eraseIdx 0))) W.ce = some (.lst (rest.map V.int)) := upd_same
    have ha0 : 0 ≤ (if c0 < 0 then -c0 else c0) := by split <;> omega
    revert hw2 e2 j1 j2 ha0
    generalize upd H1 W.ce (.lst (((c0 :: rest).map V.int).eraseIdx 0)) = H2
    generalize (if c0 < 0 then -c0 else c0) = a
    intro hw2 e2 j1 j2 ha0
    refine ⟨_, rfl, _, _, _, _, rfl, rfl, SqL.of j1, at4.2.2.2, _, _, rfl, rfl, .inl ⟨by omega, by omega⟩, _, rfl, _, _, rfl, rfl, _, _, rfl, rfl, .inl ⟨_, rfl, _, _, rfl, rfl, by show (0 : Int) < 2147483647; decide, _, rfl, _, _, _, 3, rfl, rfl, j1, rfl, ?_⟩⟩
    have hm1 : 0 ≤ (acc * 8191 + a + 3) % 2147483647 ∧ (acc * 8191 + a + 3) % 2147483647 < 2147483647 := ⟨Int.emod_nonneg _ (by decide), Int.emod_lt_of_pos _ (by decide)⟩
    have hw3 := WOk_set (m := n + 1) (cnt := cnt + 1) (pend := 0) (acc := ((acc * 8191 + a + 3) % 2147483647)) hw2 j2 (Int.le_refl 0) hm1.1 hm1.2 (Nat.succ_le_succ b4)
    have e3 := ExtW_put (o := .lst [.ref W.ce, .int 0, .int ((cnt + 1 : Nat) : Int), .int ((acc * 8191 + a + 3) % 2147483647)]) e2 (.inl rfl)
    have j3 : (upd H2 W.st (.lst [.ref W.ce, .int 0, .int ((cnt + 1 : Nat) : Int), .int ((acc * 8191 + a + 3) % 2147483647)])) W.st = some (.lst [.ref W.ce, .int 0, .int ((cnt + 1 : Nat) : Int), .int ((acc * 8191 + a + 3) % 2147483647)]) := upd_same
    have j4 : (upd H2 W.st (.lst [.ref W.ce, .int 0, .int ((cnt + 1 : Nat) : Int), .int ((acc * 8191 + a + 3) % 2147483647)])) W.ce = some (.lst (rest.map V.int)) := by rw [upd_ne hw2.ne.symm]; exact j2
    have last : ∀ x : Int, 0 ≤ x → ∃ μ', μ' < (c0 :: rest).length ∧ DrawI W G H n m (cnt + 1) μ' [some (.ref W.st), some (.int m), some (.int a), none, none] (upd (upd H2 W.st (.lst [.ref W.ce, .int 0, .int ((cnt + 1 : Nat) : Int), .int ((acc * 8191 + a + 3) % 2147483647)])) W.st (.lst [.ref W.ce, .int x, .int ((cnt + 1 : Nat) : Int), .int ((acc * 8191 + a + 3) % 2147483647)])) := fun x hx =>
      ⟨rest.length, by simp, rest, x, ((acc * 8191 + a + 3) % 2147483647), _, rfl, rfl, upd_same, by rw [upd_ne hw3.ne.symm]; exact j4, hx, hm1.1, hm1.2, WOk_set (cnt := cnt + 1) hw3 j4 hx hm1.1 hm1.2 (Nat.succ_le_succ b4), ExtW_put e3 (.inl rfl)⟩
    have go : ∀ x : Int, 0 ≤ x → gSub (tVar 0) (tC (.int 1)) rSetL (.int x) [some (.ref W.st), some (.int m), some (.int a), none, none] (upd H2 W.st (.lst [.ref W.ce, .int 0, .int ((cnt + 1 : Nat) : Int), .int ((acc * 8191 + a + 3) % 2147483647)])) (fun σ' H' => ∃ μ', μ' < (c0 :: rest).length ∧ DrawI W G H n m (cnt + 1) μ' σ' H') := fun x hx => ⟨_, rfl, _, _, _, 1, rfl, rfl, j3, rfl, last x hx⟩
    refine ⟨_, rfl, _, _, rfl, rfl, ⟨by decide, by decide, by decide⟩, _, _, rfl, rfl, _, rfl, ?_⟩
    by_cases hge : ((10 : Int) ^ (18 : Int).toNat) ≤ a
    · rw [decide_eq_true hge]
      exact iteT ⟨_, rfl, go a ha0⟩
    · rw [decide_eq_false hge]
      exact iteF (go 0 (Int.le_refl 0))
  · rintro μ σ H1 ⟨⟨cells, pend, acc, x2, rfl, rfl, k1, k2, b1, b2, b3, hw1, e1⟩, _⟩
    have ct : cnt + 1 ≤ 2 ^ 40 := by omega
    have fin : ∀ (x : Int) (H2 : Hp), 0 ≤ x → x < m → ExtW W G H G H2 → WOk W (n + 1) H2 → Q (.int x) H2 := fun x H2 h0 h1 e w2 => by
      obtain ⟨j, rfl⟩ := int_of_nn h0
      exact k (.int (j : Nat)) _ G H2 ⟨m, j, rfl, rfl, by omega⟩ e w2 (.int _)
    refine ⟨_, rfl, _, _, _, _, rfl, rfl, SqL.of k1, at4.2.1, _, _, rfl, rfl, _, rfl, ?_⟩
    have hm' : (0 : Int) < (m : Int) := by omega
    have hm2 : (m : Int) < 1073741824 := by omega
    by_cases hp : 0 < pend
    · rw [decide_eq_true hp]
      refine iteT ⟨_, rfl, _, _, _, _, rfl, rfl, SqL.of k1, at4.2.1, .inl ⟨_, rfl, _, rfl, _, _, rfl, rfl, hm', ?_⟩⟩
      refine ⟨_, rfl, _, _, _, _, rfl, rfl, SqL.of k1, at4.2.1, _, rfl, _, _, rfl, rfl, ⟨hm', hm2⟩, _, rfl, _, _, _, 1, rfl, rfl, k1, rfl, _, rfl, ?_⟩
      exact fin _ _ (Int.emod_nonneg _ (by omega)) (Int.emod_lt_of_pos _ hm') (ExtW_put e1 (.inl rfl)) (WOk_set (cnt := cnt + 1) hw1 k2 (Int.ediv_nonneg b1 (by omega)) b2 b3 (Nat.succ_le_succ b4))
    · rw [decide_eq_false hp]
      refine iteF (nxt ?_)
      refine ⟨_, rfl, _, _, _, _, rfl, rfl, SqL.of k1, at4.2.2.2, _, rfl, _, _, _, _, rfl, rfl, SqL.of k1, at4.2.2.1, _, _, rfl, rfl, .inl ⟨by decide, by decide⟩, _, _, rfl, rfl, _, _, rfl, rfl, _, _, rfl, rfl, ⟨by decide, by decide, ?_⟩, .inl ⟨_, rfl, _, _, rfl, rfl, by show (0 : Int) < 2147483629; decide, ?_⟩⟩
      · omega
      · generalize hx : (acc + 7919 * ((cnt + 1 : Nat) : Int) + 104729) ^ (5 : Int).toNat % 2147483629 = x
        have h0 : 0 ≤ x := by rw [← hx]; exact Int.emod_nonneg _ (by decide)
        have h1 : x < 2147483629 := by rw [← hx]; exact Int.emod_lt_of_pos _ (by decide)
        refine ⟨_, rfl, _, _, rfl, rfl, .inl ⟨by omega, by omega⟩, _, rfl, _, _, _, _, rfl, rfl, SqL.of k1, at4.2.2.1, _, _, rfl, rfl, .inl ⟨by decide, by decide⟩, _, _, rfl, rfl, _, _, rfl, rfl, _, _, rfl, rfl, ⟨by decide, by decide, ?_⟩, .inl ⟨_, rfl, _, _, rfl, rfl, by show (0 : Int) < 1000000007; decide, _, rfl, _, _, rfl, rfl, hm', ?_⟩⟩
        · omega
        · exact fin _ _ (Int.emod_nonneg _ (by omega)) (Int.emod_lt_of_pos _ hm') e1 hw1
end
end K48
set_option Elab.async false
set_option linter.all false
set_option maxRecDepth 100000
set_option maxHeartbeats 4000000
/-! PdG: own lists being filled while the stream is drawn from -/
namespace PD
open PySem PySem.Spec PyProof.Rows L2 NdefX LamX
structure GrW (W : Wl) (G0 H0 : Hp) (ps : List Addr) (G H : Hp) : Prop where
  x : ExtW W G0 H0 G H
  own : ∀ q ∈ ps, G q = none ∧ H0 q = none ∧ ∃ ys, H q = some (.lst ys)
  nd : ps.Nodup
section
variable {W : Wl} {G0 H0 G H G1 H1 : Hp} {ps : List Addr} {p : Addr} {xs : List V} {n : Nat} {o : HO}
theorem GrW.start (h : Same G H) (c : Cl W G) : GrW W G H [] G H := ⟨.refl h c, fun _ h => by simp at h, List.nodup_nil⟩
theorem GrW.ext (g : GrW W G0 H0 ps G H) (w : WOk W n H0) (e : ExtW W G H G1 H1) : GrW W G0 H0 ps G1 H1 := by
  refine ⟨g.x.trans e, fun q hq => ?_, g.nd⟩
  obtain ⟨a1, a2, ys, a3⟩ := g.own q hq
  have k := w.off a2
  refine ⟨?_, a2, ys, e.hh _ _ a3 ⟨k.1, k.2, fun _ z => nomatch z⟩⟩
  cases z : G1 q with
  | none => rfl
  | some u =>
    rcases e.fr q (by rw [z]; simp) with y | y
    · exact absurd a1 y
    · rw [a3] at y; cases y
theorem GrW.same (g : GrW W G0 H0 ps G H) (w : WOk W n H0) (e : Same H H1) : GrW W G0 H0 ps G H1 :=
  g.ext w ⟨fun a o h _ => e _ _ h, fun a h => e.free h, Same.refl _, g.x.gh.trans e, fun _ h => .inl h, g.x.cl⟩
theorem GrW.new (g : GrW W G0 H0 ps G H) (w : WOk W n H0) (hp : H p = none) : GrW W G0 H0 (p :: ps) G (upd H p (.lst xs)) := by
  have g1 := g.same w (same_new (o := .lst xs) hp)
  refine ⟨g1.x, fun q hq => ?_, List.nodup_cons.mpr ⟨fun m => ?_, g.nd⟩⟩
  · rcases List.mem_cons.mp hq with rfl | hq
    · exact ⟨g.x.gh.free hp, g.x.dom _ hp, xs, upd_same⟩
    · exact g1.own q hq
  · obtain ⟨_, _, ys, a3⟩ := g.own p m
    rw [hp] at a3; cases a3
theorem GrW.off (g : GrW W G0 H0 ps G H) (w : WOk W n H0) (hp : p ∈ ps) : p ≠ W.st ∧ p ≠ W.ce := w.off (g.own p hp).2.1
theorem GrW.put (g : GrW W G0 H0 ps G H) (hp : p ∈ ps) : GrW W G0 H0 ps G (upd H p (.lst xs)) := by
  obtain ⟨a1, a2, ys, a3⟩ := g.own p hp
  refine ⟨⟨fun a o h k => ?_, fun a h => g.x.dom a (NdefX.upd_none h), g.x.gg, same_off g.x.gh a1, g.x.fr, g.x.cl⟩, fun q hq => ?_, g.nd⟩
  · rw [upd_ne fun z => by rw [z, a2] at h; cases h]
    exact g.x.hh a o h k
  · obtain ⟨b1, b2, zs, b3⟩ := g.own q hq
    by_cases e : q = p
    · subst e; exact ⟨b1, b2, xs, upd_same⟩
    · exact ⟨b1, b2, zs, by rw [upd_ne e]; exact b3⟩
theorem GrW.wput (g : GrW W G0 H0 ps G H) (w0 : WOk W n H0) {m : Nat} (w : WOk W m H) (hp : p ∈ ps) : WOk W m (upd H p (.lst xs)) := by
  obtain ⟨_, _, ys, a3⟩ := g.own p hp
  have k := g.off w0 hp
  exact w.put a3 k.1 k.2
theorem GrW.freeze (g : GrW W G0 H0 (p :: ps) G H) (w : WOk W n H0) (h : H p = some (.lst xs)) : GrW W G0 H0 ps (upd G p (.lst xs)) H ∧ Same G (upd G p (.lst xs)) := by
  have hp : p ∈ p :: ps := List.mem_cons_self ..
  obtain ⟨a1, a2, _⟩ := g.own p hp
  have nd := List.nodup_cons.mp g.nd
  have k := g.off w hp
  refine ⟨⟨⟨g.x.hh, g.x.dom, g.x.gg.trans (same_new a1), fun b o e => ?_, fun a q => ?_, fun a o q => ?_⟩, fun q hq => ?_, nd.2⟩, same_new a1⟩
  · by_cases z : b = p
    · subst z; rw [upd_same] at e; rw [h]; exact e
    · rw [upd_ne z] at e; exact g.x.gh _ _ e
  · by_cases e : a = p
    · subst e; exact .inr a2
    · rw [upd_ne e] at q; exact g.x.fr a q
  · by_cases e : a = p
    · subst e
      rw [upd_same] at q
      cases q
      exact ⟨k.1, k.2, fun _ z => nomatch z⟩
    · rw [upd_ne e] at q; exact g.x.cl _ _ q
  · obtain ⟨b1, b2, b3⟩ := g.own q (List.mem_cons_of_mem _ hq)
    have ne : q ≠ p := fun e => nd.1 (by rw [← e]; exact hq)
    exact ⟨by rw [upd_ne ne]; exact b1, b2, b3⟩
theorem GrW.drop (g : GrW W G0 H0 (p :: ps) G H) : GrW W G0 H0 ps G H := ⟨g.x, fun q hq => g.own q (List.mem_cons_of_mem _ hq), (List.nodup_cons.mp g.nd).2⟩
/-- a pure reading's growth -/
theorem GrW.pure (g : GrW W G0 H0 ps G H) (w : WOk W n H0) {m : Nat} (wh : WOk W m H) (e : Ext G H G1 H1) : GrW W G0 H0 ps (joinG G G1) H1 ∧ WOk W m H1 := ⟨g.ext w (e.w g.x.cl wh), wh.up e.hh⟩
theorem joinG_same {G G' : Hp} : Same G (joinG G G') := fun a o e => by
  unfold joinG
  rw [e]
/-- behind a turn's item -/
theorem GrW.yld {x : V} {d : PyData} {H' : Hp} (g : GrW W G0 H0 ps G H) (w : WOk W n H0) {m : Nat} (wh : WOk W m H) (h1 : Same G1 G) (y : ∀ G2, Same G1 G2 → Same G2 H → ∃ G3, Ext G2 H G3 H' ∧ Dq G3 x d) :
    ∃ G3, GrW W G0 H0 ps G3 H' ∧ WOk W m H' ∧ Same G G3 ∧ Dq G3 x d := by
  obtain ⟨G3, e, dx⟩ := y G h1 g.x.gh
  obtain ⟨g2, w2⟩ := g.pure w wh e
  exact ⟨_, g2, w2, joinG_same, joinG_dq e.gg dx⟩
end
end PD
set_option Elab.async false
set_option linter.all false
set_option maxRecDepth 100000
set_option maxHeartbeats 4000000
/-! K48e: _law_stream, _law_mixed -/
namespace K48
open PySem PySem.Spec PyProof.Rows L2 PD StX RZ NdefX LamX
section
variable {P : Program} {w : World} {K : PySem.W.Frag} {mg : Str → Option Value} {base : Heap} {t : Tb} {W : Wl} {n m : Nat} {G H H0 : Hp}
/-! ### _law_mixed -/
abbrev nMixed : List Str := ["_law_stream_here", "_law_things_here", "_law_left", "_law_found", "_law_k"]
theorem scMixed : FnScope nMixed ["_law_stream_here", "_law_things_here"] (defScope sMixed) := ⟨rfl, rfl, rfl, by decide +kernel, rfl, by decide +kernel, by decide +kernel⟩
def prMixed (ds : List PyData) : Prop := ∃ xs, ds = [.list xs] ∧ xs.length ≤ 1000
def DMixed (ds : List PyData) (d : PyData) : Prop := ∃ xs ys, ds = [.list xs] ∧ d = .list ys ∧ ys.Perm xs
def lenD : List PyData → Nat
  | [.list xs] => xs.length
  | _ => 0
theorem perm_erase {α : Type} {ls : List α} {k : Nat} {x : α} (h : ls[k]? = some x) : (x :: ls.eraseIdx k).Perm ls := by
  induction ls generalizing k with
  | nil => simp at h
  | cons a r ih =>
    cases k with
    | zero => simp at h; subst h; exact List.Perm.refl _
    | succ k =>
      have := ih (k := k) (by simpa using h)
      rw [List.eraseIdx_cons_succ]
      exact (List.Perm.swap _ _ _).trans (this.cons _)
theorem dqAll_erase {G : Hp} : ∀ {vs : List V} {ds : List PyData} (k : Nat), DqAll G vs ds → DqAll G (vs.eraseIdx k) (ds.eraseIdx k)
  | _, _, _, .nil => by simp; exact .nil
  | _, _, 0, .cons h t => by simpa using t
  | _, _, k + 1, .cons h t => by simpa using DqAll.cons h (dqAll_erase k t)
theorem seqIx {j n : Nat} (h : j < n) : seqIndex? (j : Int) n = some j := by
  unfold seqIndex?
  have h1 : ¬ ((j : Int) < 0) := by omega
  have h2 : (decide (0 ≤ (j : Int)) && decide ((j : Int) < (n : Int))) = true := by simp; omega
  simp only [h1, if_false]
  rw [if_pos h2]
  simp
theorem fn_mixed (D : Df K mg "_law_mixed" sMixed) (FD : Fn P w K mg base CX0 "_law_draw" 1 2 (spS t (fun _ => 1) prDraw DDraw)) (m1 : mg "list" = none) (m2 : mg "range" = none) (m3 : mg "len" = none) :
    Fn P w K mg base CX0 "_law_mixed" 2 2 (spS t lenD prMixed DMixed) := by
  refine D.fn scMixed (by rintro vs H Q E ⟨W, G, ds, n, us, ht, rfl, hG, hcl, hw, hl, hd, ⟨xs, rfl, hx⟩, k⟩; have := hd.len; simp at this; simp [this]) rfl (fun _ _ _ _ _ _ us hl => match us, hl with | [_, _], _ => rfl) fun f cdv A outer s H vs Q E hr hsp => ?_
  obtain ⟨W, G, ds, n, us, rfl, rfl, hG, hcl, hw, hl, hd, ⟨xs, rfl, hx⟩, k⟩ := hsp
  obtain ⟨u, rfl, du⟩ := hd.one
  have hsz : sizeLine = 16777216 := sizeLine_eq
  refine ⟨_, pss_cons (ps_par (i := 2) (j := 3) (by rfl) scMixed.nd rfl rfl (by decide) rfl rfl (pa_cons (xe_list (K := K) m1 (pv 1)) (pa_cons (pe_lst pa_nil) pa_nil)) (by rfl))
    (pss_cons (ps_for PassesOwn.never rfl (pi_range1 rfl m2 (pa_cons (xe_len (K := K) m3 (pv 2)) pa_nil)) (pg_name (i := 4) scMixed.nd rfl (.inl rfl))
      (pss_one (xs_append (pv 3) (pe_bm PySem.F.plainAttrs_list PySem.F.slot_list_pop PySem.F.type_list_pop mt_popAt (pv 2) (pa_cons (pe_fn FD hr rfl pass0 (pa_cons (pv 0) (pa_cons (xe_len (K := K) m3 (pv 2)) pa_nil))) pa_nil)))))
    (pss_one (ps_ret (pv 3)))), ?_⟩
  cases du with
  | @lst a vs _ ha hall =>
    refine ⟨_, rfl, ⟨_, _, rfl, .inl (SqL.of (hG _ _ ha)), fun l hl1 => ⟨by show 0 ≤ sizeLine; omega, fun p hp => ⟨_, _, rfl, ?_⟩⟩⟩⟩
    have g0 : GrW W G H [p, l] G (upd (upd H l (.lst vs)) p (.lst [])) := ((GrW.start hG hcl).new hw hl1).new hw hp
    have hw0 : WOk W n (upd (upd H l (.lst vs)) p (.lst [])) := (hw.up (same_new hl1)).up (same_new hp)
    have hlp : l ≠ p := ne_of_none upd_same hp
    refine ⟨_, rfl, l, vs, rfl, .inl (SqL.of (by rw [upd_ne hlp]; exact upd_same)), vs.length, rfl, by have := hall.len; omega, by have := hall.len; omega, ?_⟩
    have hlen := hall.len
    rw [Int.toNat_natCast]
    refine for_range (lo := 0) (n := vs.length) (fun i σ H1 => ∃ (x4 : Option V) (G1 : Hp) (vl vf : List V) (ls fs : List PyData), σ = [some (.ref W.st), some (.ref a), some (.ref l), some (.ref p), x4] ∧ GrW W G H [p, l] G1 H1 ∧ WOk W (n + i) H1 ∧ H1 l = some (.lst vl) ∧ H1 p = some (.lst vf) ∧ DqAll G1 vl ls ∧ DqAll G1 vf fs ∧ (fs ++ ls).Perm xs ∧ fs.length = i) ?_ ?_ ?_
    · exact ⟨none, G, vs, [], xs, [], rfl, g0, hw0, by rw [upd_ne hlp]; exact upd_same, upd_same, hall, .nil, List.Perm.refl _, rfl⟩
    · rintro i σ H1 hi ⟨x4, G1, vl, vf, ls, fs, rfl, g, hw1, q1, q2, d1, d2, hperm, hfl⟩
      have hll : fs.length + ls.length = xs.length := by rw [← List.length_append]; exact hperm.length_eq
      have hvl := d1.len
      refine ⟨_, rfl, .inl ⟨rfl, _, SqL.of q2⟩, ?_⟩
      refine ⟨_, rfl, .inl ⟨rfl, _, SqL.of q1⟩, ?_⟩
      refine ⟨_, rfl, _, rfl, l, vl, rfl, .inl (SqL.of q1), ?_⟩
      have ht : (1 : Nat) ≤ 1 := Nat.le_refl 1
      refine ⟨W, G1, [.int (vl.length : Nat)], n + i, [.int (vl.length : Nat)], rfl, rfl, g.x.gh, g.x.cl, hw1, ?_, .cons (.int _) .nil, ⟨vl.length, rfl, by omega, by omega⟩, ?_⟩
      · have : n + lenD [.list xs] ≤ lim := hl
        have e : lenD [.list xs] = xs.length := rfl
        show n + i + 1 ≤ lim
        omega
      · rintro d v G2 H2 ⟨m, j, e1, rfl, hj⟩ x hw2 dv
        cases dv
        cases e1
        have g2 := g.ext hw x
        have k1 := g.off hw (List.mem_cons_of_mem _ (List.mem_cons_self ..))
        have k2 := g.off hw (List.mem_cons_self ..)
        have r1 := x.hh _ _ q1 ⟨k1.1, k1.2, fun _ z => nomatch z⟩
        have r2 := x.hh _ _ q2 ⟨k2.1, k2.2, fun _ z => nomatch z⟩
        obtain ⟨y, hy⟩ : ∃ y, vl[j]? = some y := ⟨_, List.getElem?_eq_getElem hj⟩
        obtain ⟨dy, hdy, ddy⟩ := (d1.up x.gg).get hy
        refine ⟨_, _, _, j, _, rfl, rfl, r1, by omega, by omega, ?_, hy, ?_⟩
        · exact seqIx hj
        · have g3 := g2.put (xs := vl.eraseIdx j) (List.mem_cons_of_mem _ (List.mem_cons_self ..))
          have hw3 := g2.wput (xs := vl.eraseIdx j) hw hw2 (List.mem_cons_of_mem _ (List.mem_cons_self ..))
          have s2 : (upd H2 l (.lst (vl.eraseIdx j))) p = some (.lst vf) := by rw [upd_ne hlp.symm]; exact r2
          have hvf := d2.len
          refine ⟨_, _, _, rfl, rfl, s2, by omega, ?_⟩
          have g4 := g3.put (xs := vf ++ [y]) (List.mem_cons_self ..)
          have hw4 := g3.wput (xs := vf ++ [y]) hw hw3 (List.mem_cons_self ..)
          refine ⟨_, G2, vl.eraseIdx j, vf ++ [y], ls.eraseIdx j, fs ++ [dy], rfl, g4, ?_, by rw [upd_ne hlp]; exact upd_same, upd_same, dqAll_erase j (d1.up x.gg), (d2.up x.gg).snoc ddy, ?_, by simp [hfl]⟩
          · rw [Nat.add_assoc] at hw4; exact hw4
          · refine List.Perm.trans ?_ hperm
            rw [List.append_assoc]
            exact (perm_erase hdy).append_left fs
    · rintro σ H1 ⟨x4, G1, vl, vf, ls, fs, rfl, g, hw1, q1, q2, d1, d2, hperm, hfl⟩
      have hll : fs.length + ls.length = xs.length := by rw [← List.length_append]; exact hperm.length_eq
      have e0 : ls = [] := List.length_eq_zero_iff.mp (by omega)
      subst e0
      rw [List.append_nil] at hperm
      obtain ⟨g5, sg⟩ := g.freeze hw q2
      refine ⟨_, rfl, k (.list fs) _ _ H1 ⟨xs, fs, rfl, rfl, hperm⟩ g5.x ?_ (.lst upd_same (d2.up sg))⟩
      have e : lenD [.list xs] = vs.length := hlen.symm
      rw [e]; exact hw1
end
end K48
set_option Elab.async false
set_option linter.all false
set_option maxRecDepth 100000
set_option maxHeartbeats 4000000
/-! PdN: comprehensions whose items and tests draw from the stream -/
namespace PD
open PySem PySem.Spec PyProof.Rows L2 NdefX LamX RZ
/-- some of the items (all, where sk can't be), each with one of the other list -/
inductive Kp2 (F : PyData → PyData → Prop) (sk : Prop) : List PyData → List PyData → Prop
  | nil : Kp2 F sk [] []
  | keep {a b : PyData} {as bs : List PyData} : F a b → Kp2 F sk as bs → Kp2 F sk (a :: as) (b :: bs)
  | skip {a : PyData} {as bs : List PyData} : sk → Kp2 F sk as bs → Kp2 F sk (a :: as) bs
theorem Kp2.snoc {F : PyData → PyData → Prop} {sk : Prop} {a b : PyData} (h : F a b) : ∀ {as bs : List PyData}, Kp2 F sk as bs → Kp2 F sk (as ++ [a]) (bs ++ [b])
  | _, _, .nil => .keep h .nil
  | _, _, .keep k t => .keep k (Kp2.snoc h t)
  | _, _, .skip k t => .skip k (Kp2.snoc h t)
theorem Kp2.snocS {F : PyData → PyData → Prop} {sk : Prop} {a : PyData} (h : sk) : ∀ {as bs : List PyData}, Kp2 F sk as bs → Kp2 F sk (as ++ [a]) bs
  | _, _, .nil => .skip h .nil
  | _, _, .keep k t => .keep k (Kp2.snocS h t)
  | _, _, .skip k t => .skip k (Kp2.snocS h t)
theorem Kp2.len {F : PyData → PyData → Prop} {sk : Prop} : ∀ {as bs : List PyData}, Kp2 F sk as bs → bs.length ≤ as.length
  | _, _, .nil => Nat.le_refl _
  | _, _, .keep _ t => Nat.succ_le_succ (Kp2.len t)
  | _, _, .skip _ t => Nat.le_succ_of_le (Kp2.len t)
/-- all are kept -/
theorem Kp2.all {F : PyData → PyData → Prop} : ∀ {as bs : List PyData}, Kp2 F False as bs → as.length = bs.length
  | _, _, .nil => rfl
  | _, _, .keep _ t => by simp [Kp2.all t]
  | _, _, .skip h _ => h.elim
/-- kept as they are: a sublist -/
theorem Kp2.sub {sk : Prop} : ∀ {as bs : List PyData}, Kp2 (fun a b => b = a) sk as bs → bs.Sublist as
  | _, _, .nil => List.Sublist.refl _
  | _, _, .keep e t => by subst e; exact (Kp2.sub t).cons_cons _
  | _, _, .skip _ t => (Kp2.sub t).cons _
theorem ExtW.pre {W : Wl} {G H H1 G' H' : Hp} (x : ExtW W G H1 G' H') (e : Same H H1) : ExtW W G H G' H' := ⟨fun a o q z => x.hh a o (e _ _ q) z, fun a q => e.free (x.dom a q), x.gg, x.gh, fun a q => (x.fr a q).elim .inl fun z => .inr (e.free z), x.cl⟩
def WN (W : Wl) (wi : TI) (σ : L2.St) (G : Hp) (c : Nat) (D : List PyData → Prop) : Prop := ∀ (H : Hp) (n : Nat) (R : It → Hp → Prop), Same G H → Cl W G → WOk W n H → n + c ≤ lim →
  (∀ ds J G' H', D ds → ExtW W G H G' H' → WOk W (n + c) H' → DW J G' ds → R J H') → wi σ H R
def TN (W : Wl) (t : TT) (σ : L2.St) (G : Hp) (c : Nat) (B : Bool → Prop) : Prop := ∀ (H : Hp) (n : Nat) (Q : Bool → Hp → Prop), Same G H → Cl W G → WOk W n H → n + c ≤ lim → (∀ b G' H', B b → ExtW W G H G' H' → WOk W (n + c) H' → Q b H') → t σ H Q
section
variable {W : Wl} {K : PySem.W.Frag} {σ : L2.St} {G G1 : Hp} {c c1 c2 ct : Nat} {D D' F : PyData → Prop} {DL : List PyData → Prop} {te tl : TE} {tt tu : TT} {wi : TI} {vs : List Nat} {b : Bool} {d : PyData} {ds : List PyData} {B B' : Bool → Prop}
theorem DW.up {J : It} (w : DW J G ds) (e : Same G G1) : DW J G1 ds := ⟨w.w.mono (fun H hs => e.trans hs) fun i H x H' hi hs ⟨d, a, b, k⟩ => ⟨d, a, b, fun G2 g2 h2 => k G2 (e.trans g2) h2⟩⟩
theorem WN_list (h : PN W tl σ G c D) (hD : ∀ d, D d → ∃ ds, d = .list ds ∧ DL ds) : WN W (iList K tl) σ G c DL := fun H n R hs cl hw hl k => h H n _ hs cl hw hl fun d v G' H' hd x hw' dv => by
  obtain ⟨ds, rfl, q⟩ := hD d hd
  cases dv with
  | lst ha hd => exact ⟨_, rfl, ⟨_, SqL.of (x.gh _ _ ha)⟩, k ds _ G' H' q x hw' (DW_list ha hd)⟩
theorem WN_seq (h : PN W tl σ G c D) (hD : ∀ d, D d → ∃ ds, (d = .list ds ∨ d = .tuple ds) ∧ DL ds) : WN W (iSeq K tl) σ G c DL := fun H n R hs cl hw hl k => h H n _ hs cl hw hl fun d v G' H' hd x hw' dv => by
  obtain ⟨ds, e, q⟩ := hD d hd
  rcases e with rfl | rfl
  · cases dv with
    | lst ha hd => exact ⟨_, rfl, .inl ⟨_, SqL.of (x.gh _ _ ha), k ds _ G' H' q x hw' (DW_list ha hd)⟩⟩
  · cases dv with
    | tup ha hd => exact ⟨_, rfl, .inr ⟨_, SqT.of (x.gh _ _ ha), k ds _ G' H' q x hw' (DW_tup ha hd)⟩⟩
theorem TN_of (h : TR tt σ G b) : TN W tt σ G 0 (· = b) := fun H n Q hs cl hw hl k => h H Q hs fun H' e => k b G H' rfl ((Ext.more hs e).w cl hw |> fun x => ⟨x.hh, x.dom, Same.refl _, hs.trans e, fun _ h => .inl h, cl⟩) (hw.up e)
theorem TN.imp (h : TN W tt σ G c B) (hc : c ≤ c1) (hb : ∀ b, B b → B' b) : TN W tt σ G c1 B' := fun H n Q hs cl hw hl k => h H n Q hs cl hw (by omega) fun b G' H' x1 x2 x3 => k b G' H' (hb b x1) x2 (x3.mono (by omega))
theorem TN_test (h : PN W te σ G c D) (hD : ∀ d, D d → ∃ b, d = .bool b ∧ B b) : TN W (tTest te) σ G c B := fun H n Q hs cl hw hl k => h H n _ hs cl hw hl fun d v G' H' hd x hw' dv => by
  obtain ⟨b, rfl, q⟩ := hD d hd
  cases dv
  exact ⟨b, rfl, k b G' H' q x hw'⟩
theorem TN_tB (h : PN W te σ G c D) (hD : ∀ d, D d → ∃ b, d = .bool b ∧ B b) : TN W (tB te) σ G c B := fun H n Q hs cl hw hl k => h H n _ hs cl hw hl fun d v G' H' hd x hw' dv => by
  obtain ⟨b, rfl, q⟩ := hD d hd
  cases dv
  exact ⟨b, rfl, k b G' H' q x hw'⟩
theorem TN_not (h : TN W tt σ G c B) : TN W (tNot tt) σ G c (fun b => B (!b)) := fun H n Q hs cl hw hl k => h H n _ hs cl hw hl fun b G' H' hb x hw' => k (!b) G' H' (by simpa using hb) x hw'
theorem TN_yes : TN W tYes σ G 0 (fun b => b = true) := TN_of TR_yes
theorem TN.mono (h : TN W tt σ G c B) (e : Same G G1) : TN W tt σ G1 c B := fun H n Q hs hc hw hl k => h H n Q (e.trans hs) (fun a o q => hc a o (e _ _ q)) hw hl fun b G' H' hb x hw' => by
  obtain ⟨G2, y, _⟩ := x.lift e hc hs
  exact k b G2 H' hb y hw'
theorem PN_ifN (h : TN W tt σ G c1 B) (ht : B true → PN W te σ G c2 D) (hf : B false → PN W tl σ G c2 D) : PN W (tIf tt te tl) σ G (c1 + c2) D := fun H n Q hs cl hw hl k => h H n _ hs cl hw (by omega) fun b G1 H1 hb x hw1 => by
  cases b with
  | true => exact iteT (((ht hb).mono x.gg) H1 (n + c1) Q x.gh x.cl hw1 (by omega) fun d v G2 H2 hd y hw2 dv => k d v G2 H2 hd (x.trans y) (by rw [Nat.add_assoc] at hw2; exact hw2) dv)
  | false => exact iteF (((hf hb).mono x.gg) H1 (n + c1) Q x.gh x.cl hw1 (by omega) fun d v G2 H2 hd y hw2 dv => k d v G2 H2 hd (x.trans y) (by rw [Nat.add_assoc] at hw2; exact hw2) dv)
theorem tSetN_use {i n : Nat} {De : Ends} {H : Hp} (hs : Same G H) (cl : Cl W G) (hw : WOk W n H) (hl : n + c ≤ lim) (h : PN W te σ G c D) (k : ∀ d v G' H', D d → ExtW W G H G' H' → WOk W (n + c) H' → Dq G' v d → De.nx (σ.set i (some v)) H') : tAsg te (gName i) De σ H := h H n _ hs cl hw hl k
theorem tRetN_use {n : Nat} {De : Ends} {H : Hp} (hs : Same G H) (cl : Cl W G) (hw : WOk W n H) (hl : n + c ≤ lim) (h : PN W te σ G c D) (k : ∀ d v G' H', D d → ExtW W G H G' H' → WOk W (n + c) H' → Dq G' v d → De.rt v H') : tRet te De σ H := h H n _ hs cl hw hl k
theorem tIfN_use {n : Nat} {ts us : TS} {De : Ends} {H : Hp} (hs : Same G H) (cl : Cl W G) (hw : WOk W n H) (hl : n + c ≤ lim) (h : TN W tt σ G c B) (k : ∀ b G' H', B b → ExtW W G H G' H' → WOk W (n + c) H' → if b = true then ts De σ H' else us De σ H') : tIfS tt ts us De σ H := h H n _ hs cl hw hl k
theorem tForN_use {n : Nat} {g : TG} {tb : TS} {De : Ends} {H : Hp} (hs : Same G H) (cl : Cl W G) (hw : WOk W n H) (hl : n + c ≤ lim) (h : WN W wi σ G c DL)
    (k : ∀ ds J G1 H1, DL ds → ExtW W G H G1 H1 → WOk W (n + c) H1 → DW J G1 ds → ∃ V : Nat → Nat → L2.St → Hp → Prop, (∃ m, V 0 m σ H1) ∧ ∀ i m σ H, V i m σ H → (J.stop i H ∧ De.nx σ H) ∨ (J.go i H ∧ ∃ N : L2.St → Hp → Prop, (∀ σ' H', N σ' H' → ∃ m', m' < m ∧ V (i + 1) m' σ' H') ∧
      ∀ x H', J.yld i H x H' → g x σ H' fun σ2 H2 => tb { De with nx := N, ct := N, bk := De.nx } σ2 H2)) : tFor wi g tb De σ H := h H n _ hs cl hw hl k
/-- a turn's item, in the law's world -/
theorem yldW {n : Nat} {H H' : Hp} {G2 : Hp} {x : V} (hs : Same G2 H) (cl : Cl W G2) (hw : WOk W n H) (h1 : Same G1 G2) (y : ∀ G3, Same G1 G3 → Same G3 H → ∃ G4, Ext G3 H G4 H' ∧ Dq G4 x d) : ∃ G3, ExtW W G2 H G3 H' ∧ WOk W n H' ∧ Dq G3 x d := by
  obtain ⟨G4, e, dx⟩ := y G2 h1 hs
  exact ⟨_, e.w cl hw, hw.up e.hh, joinG_dq e.gg dx⟩
def sumC (f : PyData → Nat) : List PyData → Nat
  | [] => 0
  | d :: ds => f d + sumC f ds
theorem sumC_app (f : PyData → Nat) : ∀ (as bs : List PyData), sumC f (as ++ bs) = sumC f as + sumC f bs
  | [], bs => by simp [sumC]
  | a :: as, bs => by simp [sumC, sumC_app f as bs, Nat.add_assoc]
theorem sumC_take (f : PyData → Nat) {ds : List PyData} {i : Nat} {d : PyData} (h : ds[i]? = some d) : sumC f (ds.take (i + 1)) = sumC f (ds.take i) + f d := by
  rw [List.take_add_one, h, sumC_app]
  simp [sumC]
theorem sumC_take_le (f : PyData → Nat) (ds : List PyData) (i : Nat) : sumC f (ds.take i) ≤ sumC f ds := by
  have := sumC_app f (ds.take i) (ds.drop i)
  rw [List.take_append_drop] at this
  omega
theorem PN_lc1 {i : Nat} {e1 e2 : PyData → Nat} {FF : PyData → PyData → Prop} {sk : Prop} (hw : WN W wi σ G c DL) (hset : ∀ v, wipe ((wipe σ vs).set i (some v)) vs = wipe σ vs)
    (hstep : ∀ ds, DL ds → ∀ G1 d v, Same G G1 → d ∈ ds → Dq G1 v d → Cl W G1 → TN W tt ((wipe σ vs).set i (some v)) G1 (e1 d) (fun b => b = false → sk) ∧ PN W te ((wipe σ vs).set i (some v)) G1 (e2 d) (FF d))
    (hct : c ≤ ct) (hc : ∀ ds, DL ds → c + sumC (fun d => e1 d + e2 d) ds ≤ ct ∧ ds.length ≤ sizeLine) (hD : ∀ ds ys, DL ds → Kp2 FF sk ds ys → D (.list ys)) : PN W (tLc wi (gName i) tt te vs) σ G ct D := fun H n Q hs cl hwk hl k => by
  have hb : n + c ≤ lim := by omega
  · refine hw H n _ hs cl hwk hb fun ds J G1 H1 hds x hw1 dw D0 hD0 => ?_
    obtain ⟨hc1, hc2⟩ := hc ds hds
    have g0 : GrW W G1 H1 [D0] G1 (upd H1 D0 (.lst [])) := (GrW.start x.gh x.cl).new hw1 hD0
    refine lc_it dw.w (fun i H2 => ∃ (G2 : Hp) (acc : List V) (ys : List PyData), GrW W G1 H1 [D0] G2 H2 ∧ WOk W (n + c + sumC (fun d => e1 d + e2 d) (ds.take i)) H2 ∧ H2 D0 = some (.lst acc) ∧ DqAll G2 acc ys ∧ Kp2 FF sk (ds.take i) ys) ?_ ?_ ?_ ?_
    · exact ⟨G1, [], [], g0, hw1.up (same_new hD0), upd_same, .nil, .nil⟩
    · rintro i H2 _ ⟨G2, acc, ys, g, _⟩
      exact g.x.gg.trans g.x.gh
    · rintro i y H2 H3 hi ⟨G2, acc, ys, g, w2, hacc, dq, kp⟩ ⟨d, q1, q2, q3⟩
      obtain ⟨G3, g3, w3, s3, dx⟩ := g.yld hw1 w2 g.x.gg q3
      have mem : d ∈ ds := List.mem_of_getElem? q1
      have etk : ds.take (i + 1) = ds.take i ++ [d] := by rw [List.take_add_one, q1]; rfl
      have esum := sumC_take (fun d => e1 d + e2 d) q1
      have ele := sumC_take_le (fun d => e1 d + e2 d) ds (i + 1)
      rw [esum] at ele
      have ele : sumC (fun d => e1 d + e2 d) (ds.take i) + (e1 d + e2 d) ≤ sumC (fun d => e1 d + e2 d) ds := ele
      obtain ⟨ht, he⟩ := hstep ds hds G3 d y ((x.gg.trans g.x.gg).trans s3) mem dx g3.x.cl
      refine ⟨hset y, ht H3 _ _ g3.x.gh g3.x.cl w3 (by omega) fun b G4 H4 hb' x4 w4 => ?_⟩
      have g4 := g3.ext hw1 x4
      have p4 := (g3.own D0 (List.mem_cons_self ..))
      have k0 := g3.off hw1 (List.mem_cons_self ..)
      have a3 : H3 D0 = some (.lst acc) := q2 _ _ hacc
      have a4 : H4 D0 = some (.lst acc) := x4.hh _ _ a3 ⟨k0.1, k0.2, fun _ z => nomatch z⟩
      cases b with
      | false =>
        refine iteF ⟨G4, acc, ys, g4, ?_, a4, (dq.up s3).up x4.gg, by rw [etk]; exact kp.snocS (hb' rfl)⟩
        rw [esum]
        exact w4.mono (by show _ ≤ n + c + (_ + (e1 d + e2 d)); omega)
      | true =>
        refine iteT ((he.mono x4.gg) H4 _ _ x4.gh x4.cl w4 (by omega) fun d' v' G5 H5 hd' x5 w5 dv' => ?_)
        have g5 := g4.ext hw1 x5
        have a5 : H5 D0 = some (.lst acc) := x5.hh _ _ a4 ⟨k0.1, k0.2, fun _ z => nomatch z⟩
        have hlen : acc.length ≤ i := by
          have h1 := dq.len
          have h2 := kp.len
          rw [List.length_take] at h2
          omega
        refine ⟨acc, a5, by omega, G5, acc ++ [v'], ys ++ [d'], g5.put (List.mem_cons_self ..), ?_, upd_same, (((dq.up s3).up x4.gg).up x5.gg).snoc dv', by rw [etk]; exact kp.snoc hd'⟩
        rw [esum]
        exact (g5.wput hw1 w5 (List.mem_cons_self ..)).mono (by show _ ≤ n + c + (_ + (e1 d + e2 d)); omega)
    · rintro H2 ⟨G2, acc, ys, g, w2, hacc, dq, kp⟩
      rw [List.take_length] at kp w2
      obtain ⟨g5, sg⟩ := g.freeze hw1 hacc
      exact k _ (.ref D0) _ H2 (hD ds ys hds kp) (x.trans g5.x) (w2.mono (by omega)) (.lst upd_same (dq.up sg))
end
end PD
set_option Elab.async false
set_option linter.all false
set_option maxRecDepth 100000
set_option maxHeartbeats 4000000
/-! K48f: _law_loose, _law_things, _law_some_of -/
namespace K48
open PySem PySem.Spec PyProof.Rows L2 PD StX RZ NdefX LamX
abbrev sLoose : Stmt := top 24
abbrev sThingsL : Stmt := top 28
abbrev sSome : Stmt := top 29
theorem RR2_eqI {i j : Int} : RR2 rEq (.int i) (.int j) (.bool (decide (i = j))) := fun x y G H Q hs h1 h2 k => by
  cases h1
  cases h2
  refine ⟨rfl, ?_⟩
  have e : decide (V.int i = V.int j) = decide (i = j) := by
    by_cases h : i = j
    · subst h; simp
    · rw [decide_eq_false h]; exact decide_eq_false fun z => h (V.int.inj z)
  rw [e]
  exact k _ G H (.refl hs) (.bl _)
theorem RR2_ltI {i j : Int} : RR2 (rI0 fun i j => .bl (decide (i < j))) (.int i) (.int j) (.bool (decide (i < j))) := fun x y G H Q hs h1 h2 k => by
  cases h1
  cases h2
  exact ⟨i, j, rfl, rfl, k _ G H (.refl hs) (.bl _)⟩
theorem RR2_addI {i j : Int} : RR2 (rI0 fun i j => .int (i + j)) (.int i) (.int j) (.int (i + j)) := fun x y G H Q hs h1 h2 k => by
  cases h1
  cases h2
  exact ⟨i, j, rfl, rfl, k _ G H (.refl hs) (.int _)⟩
section
variable {P : Program} {w : World} {K : PySem.W.Frag} {mg : Str → Option Value} {base : Heap} {t : Tb} {W : Wl} {n m : Nat} {G H H0 : Hp} {σ : L2.St} {c c1 c2 : Nat} {D : PyData → Prop} {ta tb : TE}
theorem PN_slTo {D1 : PyData → Prop} {D2 : PyData → Prop} (h1 : PN W ta σ G c1 D1) (h2 : PN W tb σ G c2 D2) (hD : ∀ a b, D1 a → D2 b → ∃ es j, a = .list es ∧ b = .int (j : Nat) ∧ D (.list (es.take j))) : PN W (tSl (rSlL K) ta tNoPart (tPart tb)) σ G (c1 + c2) D := fun H n Q hs cl hw hl k =>
  h1 H n _ hs cl hw (by omega) fun d1 x G1 H1 hd1 e1 hw1 dx => (h2.mono e1.gg) H1 (n + c1) _ e1.gh e1.cl hw1 (by omega) fun d2 y G2 H2 hd2 e2 hw2 dy => by
    obtain ⟨es, j, rfl, rfl, hd⟩ := hD d1 d2 hd1 hd2
    cases dy
    have dx := dx.up e2.gg
    rw [Nat.add_assoc] at hw2
    refine ⟨_, rfl, ?_⟩
    cases dx with
    | @lst a vs _ ha hall =>
      refine ⟨_, _, rfl, SqL.of (e2.gh _ _ ha), fun p hp => ?_⟩
      have ec : ∀ xs : List V, cutV xs none (some (j : Int)) = xs.take j := fun xs => cutV_take xs j
      rw [ec]
      have y : Ext G2 H2 (upd G2 p (.lst (vs.take j))) (upd H2 p (.lst (vs.take j))) := .new e2.gh hp
      exact k _ _ _ _ hd ((e1.trans e2).trans (y.w e2.cl hw2)) (hw2.up y.hh) (joinG_dq y.gg (.lst upd_same ((hall.take j).up y.gg)))
abbrev FDraw (P : Program) (w : World) (K : PySem.W.Frag) (mg : Str → Option Value) (base : Heap) (t : Tb) : Prop := Fn P w K mg base CX0 "_law_draw" 1 2 (spS t (fun _ => 1) prDraw DDraw)
/-- _law_draw(stream, m), m written -/
theorem PN_draw {i : Nat} {tm : TE} {m : Nat} {E : XK} (hσ : σ[i]? = some (some (.ref W.st))) (hm : PR tm σ G (.int m)) (h0 : 0 < m) (h1 : m < 1073741824) : PN W (tCall (spS W.t (fun _ => 1) prDraw DDraw) [] E (tCons (tVar i) (tCons tm tNil))) σ G 1 (fun d => ∃ j : Nat, d = .int j ∧ j < m) :=
  (PN_callS (c2 := 1) hσ (PNA_of (PRA_one hm)) fun ds e => by
    subst e
    exact ⟨⟨m, rfl, h0, h1⟩, Nat.le_refl _, fun d ⟨m', j, e1, e2, e3⟩ => by cases e1; exact ⟨j, e2, e3⟩⟩).imp (by omega) fun _ h => h
theorem TN_drawEq {i : Nat} {m : Nat} {j : Int} {E : XK} (hσ : σ[i]? = some (some (.ref W.st))) (h0 : 0 < m) (h1 : m < 1073741824) :
    TN W (tTest (tOp rEq (tCall (spS W.t (fun _ => 1) prDraw DDraw) [] E (tCons (tVar i) (tCons (tC (.int m)) tNil))) (tC (.int j)))) σ G 1 (fun _ => True) :=
  TN_test (PN_op (D := fun e => ∃ b, e = .bool b) (D2 := (· = .int j)) (c2 := 0) (fun a b h e => by
    obtain ⟨k, rfl, _⟩ := h
    subst e
    exact ⟨_, ⟨_, rfl⟩, RR2_eqI⟩) (PN_draw hσ PR_int h0 h1) (PN_of PR_int)) fun d ⟨b, e⟩ => ⟨b, e, trivial⟩
theorem TN_drawLt {i : Nat} {m : Nat} {j : Int} {E : XK} (hσ : σ[i]? = some (some (.ref W.st))) (h0 : 0 < m) (h1 : m < 1073741824) :
    TN W (tTest (tOp (rI0 fun i j => .bl (decide (i < j))) (tCall (spS W.t (fun _ => 1) prDraw DDraw) [] E (tCons (tVar i) (tCons (tC (.int m)) tNil))) (tC (.int j)))) σ G 1 (fun _ => True) :=
  TN_test (PN_op (D := fun e => ∃ b, e = .bool b) (D2 := (· = .int j)) (c2 := 0) (fun a b h e => by
    obtain ⟨k, rfl, _⟩ := h
    subst e
    exact ⟨_, ⟨_, rfl⟩, RR2_ltI⟩) (PN_draw hσ PR_int h0 h1) (PN_of PR_int)) fun d ⟨b, e⟩ => ⟨b, e, trivial⟩
/-! ### _law_loose -/
mutual
/-- lists for tuples, tuples for lists, anywhere -/
inductive Lz : PyData → PyData → Prop
  | same {d : PyData} : isSeq d = false → Lz d d
  | seq {d : PyData} {ys : List PyData} {e : PyData} : isSeq d = true → LzAll (itemsD d) ys → (e = .list ys ∨ e = .tuple ys) → Lz d e
inductive LzAll : List PyData → List PyData → Prop
  | nil : LzAll [] []
  | cons {a b : PyData} {as bs : List PyData} : Lz a b → LzAll as bs → LzAll (a :: as) (b :: bs)
end
theorem lzAll_of : ∀ {as bs : List PyData}, Kp2 Lz False as bs → LzAll as bs
  | _, _, .nil => .nil
  | _, _, .keep h t => .cons h (lzAll_of t)
  | _, _, .skip h _ => h.elim
mutual
def nodes : PyData → Nat
  | .list ds => 1 + nodesL ds
  | .tuple ds => 1 + nodesL ds
  | _ => 0
def nodesL : List PyData → Nat
  | [] => 0
  | d :: ds => nodes d + nodesL ds
end
theorem nodesL_sum : ∀ ds : List PyData, nodesL ds = sumC (fun d => nodes d + 0) ds
  | [] => rfl
  | d :: ds => by rw [nodesL, sumC, nodesL_sum ds]; rfl
def headD1 (ds : List PyData) : PyData := ds.headD .none
/-- at most k deep, at most 1000 items each -/
inductive Flat : Nat → PyData → Prop
  | leaf {k : Nat} {d : PyData} : isSeq d = false → Flat k d
  | seq {k : Nat} {d : PyData} : isSeq d = true → (itemsD d).length ≤ 1000 → (∀ x ∈ itemsD d, Flat k x) → Flat (k + 1) d
theorem lzLen : ∀ {as bs : List PyData}, LzAll as bs → as.length = bs.length
  | _, _, .nil => rfl
  | _, _, .cons _ t => by simp [lzLen t]
abbrev nLoose : List Str := ["_law_stream_here", "_law_thing", "_law_some", "_law_one"]
theorem scLoose : FnScope nLoose ["_law_stream_here", "_law_thing"] (defScope sLoose) := ⟨rfl, rfl, rfl, by decide +kernel, rfl, by decide +kernel, by decide +kernel⟩
def prLoose (k : Nat) (ds : List PyData) : Prop := ∃ d, ds = [d] ∧ Flat k d
def DLoose (ds : List PyData) (d : PyData) : Prop := ∃ a, ds = [a] ∧ Lz a d
def cLoose (ds : List PyData) : Nat := nodes (headD1 ds)
theorem flat0 {d : PyData} (h : Flat 0 d) : isSeq d = false := by
  cases h with
  | leaf h => exact h
theorem loose_body (k : Nat) (D : Df K mg "_law_loose" sLoose) (FD : FDraw P w K mg base t) (FL : ∀ j, j + 1 = k → Fn P w K mg base CX0 "_law_loose" (j + 2) 2 (spS t cLoose (prLoose j) DLoose))
    (m1 : mg "isinstance" = none) (m2 : mg "list" = none) (m3 : mg "tuple" = none) : Fn P w K mg base CX0 "_law_loose" (k + 2) 2 (spS t cLoose (prLoose k) DLoose) := by
  refine D.fn scLoose (by rintro vs H Q E ⟨W, G, ds, n, us, ht, rfl, hG, hcl, hw, hl, hd, ⟨xs, rfl, hx⟩, k⟩; have := hd.len; simp at this; simp [this]) rfl (fun _ _ _ _ _ _ us hl => match us, hl with | [_, _], _ => rfl) fun f cdv A outer s H vs Q E hr hsp => ?_
  obtain ⟨W, G, ds, n, us, rfl, rfl, hG, hcl, hw, hl, hd, ⟨d, rfl, hx⟩, kq⟩ := hsp
  obtain ⟨u, rfl, du⟩ := hd.one
  have hsz : sizeLine = 16777216 := sizeLine_eq
  have hr1 := hr.mono (show 1 ≤ k + 1 by omega)
  have hsq := isSeq_eq d
  have leaf : isSeq d = false → ∀ H1, Same H H1 → Q u H1 := fun h H1 e => kq d u G H1 ⟨d, rfl, .same h⟩ ((ExtW.refl (hG.trans e) hcl).pre e) ((hw.up e).mono (by omega)) du
  cases k with
  | zero =>
    refine ⟨_, pss_cons (ps_if (pt_val (xe_isi2 (K := K) (U := "list") (U' := "tuple") m1 m2 m3 (by decide +kernel) (by decide +kernel) (pv 1))) (pss_cons ps_never (pss_one ps_never)) pss_nil) (pss_one (ps_ret (pv 1))), ?_⟩
    refine tIf_use (TR_tB (PR_isi2 (PV du) (kitL d) (kitT d))) hG fun H1 e1 => ?_
    rw [hsq, flat0 hx]
    exact iteF (nxt ⟨_, rfl, leaf (flat0 hx) H1 e1⟩)
  | succ j =>
    have FL := FL j rfl
    refine ⟨_, pss_cons (ps_if (pt_val (xe_isi2 (K := K) (U := "list") (U' := "tuple") m1 m2 m3 (by decide +kernel) (by decide +kernel) (pv 1)))
      (pss_cons (xs_setLc1 (tt := tYes) nLoose (defScope sLoose) 2 3 (pi_seq (pv 1)) (by decide +kernel) scLoose.nd (.inr rfl) (fun _ _ _ _ _ => pts_nil) (fun _ _ _ _ _ => pe_fn FL hr (by rfl) pass0 (pa_cons (pv 0) (pa_cons (pv 3) pa_nil))) rfl rfl rfl (by decide +kernel))
      (pss_one (ps_ret (pe_ifExp (pt_cmpR op_eq (pe_fn FD hr1 (by rfl) pass0 (pa_cons (pv 0) (pa_cons pe_int pa_nil))) pe_int (nomark _)) (pv 2) (xe_tuple (K := K) m3 (pv 2)))))) pss_nil) (pss_one (ps_ret (pv 1))), ?_⟩
    refine tIf_use (TR_tB (PR_isi2 (PV du) (kitL d) (kitT d))) hG fun H1 e1 => ?_
    rw [hsq]
    cases hs : isSeq d with
    | false => exact iteF (nxt ⟨_, rfl, leaf hs H1 e1⟩)
    | true =>
      obtain ⟨hz, hit⟩ : (itemsD d).length ≤ 1000 ∧ ∀ x ∈ itemsD d, Flat j x := by
        cases hx with
        | leaf h => rw [hs] at h; cases h
        | seq _ h1 h2 => exact ⟨h1, h2⟩
      have hnd : nodes d = 1 + nodesL (itemsD d) := by cases d <;> first | rfl | simp [isSeq] at hs
      have hcl2 : cLoose [d] = nodes d := rfl
      have hde : d = .list (itemsD d) ∨ d = .tuple (itemsD d) := by
        cases d with
        | list ds => exact .inl rfl
        | tuple ds => exact .inr rfl
        | _ => simp [isSeq] at hs
      refine iteT (tSetN_use (hG.trans e1) hcl (hw.up e1) (c := nodesL (itemsD d)) (by rw [hcl2, hnd] at hl; omega) (PN_lc1 (W := W) (G := G) (c := 0) (ct := nodesL (itemsD d)) (DL := (· = itemsD d)) (e1 := fun _ => 0) (e2 := nodes) (FF := Lz) (sk := False) (D := fun e => ∃ ys, e = .list ys ∧ LzAll (itemsD d) ys)
        (WN_seq (PN_of (PV du)) fun x hx => by subst hx; exact ⟨itemsD x, hde, rfl⟩) (fun _ => rfl) (fun ds hds G1 x v h1 hx2 dv hc1 => ?_) (Nat.zero_le _) (fun ds hds => ?_) (fun ds ys hds hk => ?_)) fun d1 v1 G1 H2 hd1 x1 hw1 dv1 => ?_)
      · subst hds
        refine ⟨TN.imp TN_yes (Nat.le_refl _) (fun b hb hb2 => by rw [hb] at hb2; cases hb2), PN.imp (PN_callS (c1 := 0) (c2 := nodes x) rfl (PNA_of (PRA_one (PV dv))) fun ds e => ?_) (by omega) fun _ h => h⟩
        subst e
        exact ⟨⟨x, rfl, hit x hx2⟩, Nat.le_refl _, fun d' ⟨a, e1, e2⟩ => by cases e1; exact e2⟩
      · subst hds
        refine ⟨?_, by omega⟩
        rw [nodesL_sum]
        have : (fun d => 0 + nodes d) = fun d => nodes d + 0 := by funext d; omega
        rw [this]; omega
      · subst hds
        exact ⟨ys, rfl, lzAll_of hk⟩
      · obtain ⟨ys, rfl, hys⟩ := hd1
        have hlen : ys.length = (itemsD d).length := (lzLen hys).symm
        have hlim : n + nodesL (itemsD d) + (1 + 0) ≤ lim := by rw [hcl2, hnd] at hl; omega
        refine tRetN_use x1.gh x1.cl hw1 hlim (PN_ifN (c1 := 1) (c2 := 0) (B := fun _ => True) (D := fun e => e = .list ys ∨ e = .tuple ys) (TN_drawEq (m := 2) rfl (by decide) (by decide))
          (fun _ => PN.imp (PN_of (PV dv1)) (Nat.le_refl _) fun e h => .inl h) (fun _ => PN.imp (PN_of (PR_CB RR_tupleL (PRA_one (PV dv1)))) (Nat.le_refl _) fun e h => .inr h))
          fun e v2 G2 H3 he x2 hw2 dv2 => kq e v2 G2 H3 ⟨d, rfl, .seq hs hys he⟩ ((x1.trans x2).pre e1) (hw2.mono ?_) dv2
        rw [hcl2, hnd]; omega
theorem fn_loose (D : Df K mg "_law_loose" sLoose) (FD : FDraw P w K mg base t) (m1 : mg "isinstance" = none) (m2 : mg "list" = none) (m3 : mg "tuple" = none) : ∀ k : Nat, Fn P w K mg base CX0 "_law_loose" (k + 2) 2 (spS t cLoose (prLoose k) DLoose)
  | 0 => loose_body 0 D FD (fun j h => by omega) m1 m2 m3
  | k + 1 => loose_body (k + 1) D FD (fun j h => by
      have e : j = k := by omega
      subst e
      exact fn_loose D FD m1 m2 m3 j) m1 m2 m3
/-! ### _law_things -/
def nmS : List PyData := [.str "a", .str "bob", .str "", .str "Z z", .str "10", .str "eve", .str "cipher"]
def famB : List PyData := ((nmS.take 3).map fun n => .tuple [.str "cipher", n]) ++ (nmS.take 3).map fun n => .tuple [.str "seal", n]
def famC : List PyData := nmS.map fun n => .tuple [n]
def tailF : List PyData := [.tuple [.str "label", .str "x", .str "y"], .tuple []]
/-- what the things are drawn from -/
def IsFam (F : List PyData) : Prop := F = nmS ∨ F = famB ++ tailF ∨ F = famC ++ tailF
def Things (xs : List PyData) : Prop := ∃ (F ys : List PyData) (j : Nat), IsFam F ∧ ys.Perm F ∧ j < 7 ∧ xs = ys.take j
abbrev nThingsL : List Str := ["_law_stream_here", "_law_names", "_law_every", "_law_name"]
theorem scThingsL : FnScope nThingsL ["_law_stream_here"] (defScope sThingsL) := ⟨rfl, rfl, rfl, by decide +kernel, rfl, by decide +kernel, by decide +kernel⟩
def DThings (ds : List PyData) (d : PyData) : Prop := ∃ xs, ds = [] ∧ d = .list xs ∧ Things xs
abbrev FMix (P : Program) (w : World) (K : PySem.W.Frag) (mg : Str → Option Value) (base : Heap) (t : Tb) : Prop := Fn P w K mg base CX0 "_law_mixed" 2 2 (spS t lenD prMixed DMixed)
/-- _law_mixed(stream, xs)[:_law_draw(stream, 7)] -/
theorem PN_mixTake {i : Nat} {tx : TE} {F : List PyData} {E1 E2 : XK} (hσ : σ[i]? = some (some (.ref W.st))) (hx : PR tx σ G (.list F)) (hF : IsFam F) (hl : F.length = 7 ∨ F.length = 8 ∨ F.length = 9) :
    PN W (tSl (rSlL K) (tCall (spS W.t lenD prMixed DMixed) [] E1 (tCons (tVar i) (tCons tx tNil))) tNoPart (tPart (tCall (spS W.t (fun _ => 1) prDraw DDraw) [] E2 (tCons (tVar i) (tCons (tC (.int 7)) tNil))))) σ G 10 (fun d => ∃ xs, d = .list xs ∧ Things xs) :=
  PN.imp (PN_slTo (c1 := 9) (c2 := 1) (D := fun d => ∃ xs, d = .list xs ∧ Things xs) (D1 := fun d => ∃ ys, d = .list ys ∧ ys.Perm F) (PN.imp (PN_callS (c1 := 0) (c2 := 9) hσ (PNA_of (PRA_one hx)) fun ds e => by
      subst e
      refine ⟨⟨F, rfl, by omega⟩, by show F.length ≤ 9; omega, fun d ⟨xs, ys, e1, e2, e3⟩ => ?_⟩
      cases e1
      exact ⟨ys, e2, e3⟩) (by omega) fun _ h => h) (PN_draw (m := 7) hσ PR_int (by decide) (by decide)) fun a b ⟨ys, e1, e2⟩ ⟨j, e3, e4⟩ => ⟨ys, j, e1, e3, _, rfl, F, ys, j, hF, e2, e4, rfl⟩) (Nat.le_refl _) fun _ h => h
theorem fn_thingsL (D : Df K mg "_law_things" sThingsL) (FD : FDraw P w K mg base t) (FM : FMix P w K mg base t) : Fn P w K mg base CX0 "_law_things" 3 1 (spS t (fun _ => 12) (· = []) DThings) := by
  refine D.fn scThingsL (by rintro vs H Q E ⟨W, G, ds, n, us, ht, rfl, hG, hcl, hw, hl, hd, rfl, k⟩; have := hd.len; simp at this; simp [this]) rfl (fun _ _ _ _ _ _ us hl => match us, hl with | [_], _ => rfl) fun f cdv A outer s H vs Q E hr hsp => ?_
  obtain ⟨W, G, ds, n, us, rfl, rfl, hG, hcl, hw, hl, hd, rfl, kq⟩ := hsp
  cases hd
  have hsz : sizeLine = 16777216 := sizeLine_eq
  have hr1 := hr.mono (show 1 ≤ 2 by omega)
  refine ⟨_, pss_cons (ps_set (i := 1) scThingsL.nd rfl (.inl rfl) (pe_lst (pa_cons pe_str (pa_cons pe_str (pa_cons pe_str (pa_cons pe_str (pa_cons pe_str (pa_cons pe_str (pa_cons pe_str pa_nil)))))))))
    (pss_cons (ps_if (pt_cmpR op_eq (pe_fn FD hr1 (by rfl) pass0 (pa_cons (pv 0) (pa_cons pe_int pa_nil))) pe_int (nomark _))
      (pss_one (ps_ret (pe_slice (sl_list) (pe_fn FM hr (by rfl) pass0 (pa_cons (pv 0) (pa_cons (pv 1) pa_nil))) po_none (po_some (pe_fn FD hr1 (by rfl) pass0 (pa_cons (pv 0) (pa_cons pe_int pa_nil))))))) pss_nil)
    (pss_cons (ps_set (i := 2) scThingsL.nd rfl (.inl rfl) (pe_op op_cat
      (xe_lc1 (tt := tYes) nThingsL (defScope sThingsL) 3 (pi_list (xe_slTo (K := K) (pv 1) pe_int)) (by decide +kernel) scThingsL.nd (.inr rfl) (fun _ _ _ _ _ => pts_nil) (fun _ _ _ _ _ => pe_tup (pa_cons pe_str (pa_cons (pv 3) pa_nil))))
      (xe_lc1 (tt := tYes) nThingsL (defScope sThingsL) 3 (pi_list (xe_slTo (K := K) (pv 1) pe_int)) (by decide +kernel) scThingsL.nd (.inr rfl) (fun _ _ _ _ _ => pts_nil) (fun _ _ _ _ _ => pe_tup (pa_cons pe_str (pa_cons (pv 3) pa_nil))))))
    (pss_cons (ps_set (i := 2) scThingsL.nd rfl (.inl rfl) (pe_ifExp (pt_cmpR op_eq (pe_fn FD hr1 (by rfl) pass0 (pa_cons (pv 0) (pa_cons pe_int pa_nil))) pe_int (nomark _)) (pv 2)
      (xe_lc1 (tt := tYes) nThingsL (defScope sThingsL) 3 (pi_list (pv 1)) (by decide +kernel) scThingsL.nd (.inr rfl) (fun _ _ _ _ _ => pts_nil) (fun _ _ _ _ _ => pe_tup (pa_cons (pv 3) pa_nil)))))
    (pss_one (ps_ret (pe_slice (sl_list) (pe_fn FM hr (by rfl) pass0 (pa_cons (pv 0) (pa_cons (pe_op op_cat (pv 2) (pe_lst (pa_cons (pe_tup (pa_cons pe_str (pa_cons pe_str (pa_cons pe_str pa_nil)))) (pa_cons (pe_tup pa_nil) pa_nil)))) pa_nil))) po_none (po_some (pe_fn FD hr1 (by rfl) pass0 (pa_cons (pv 0) (pa_cons pe_int pa_nil)))))))))), ?_⟩
  have hlim : n + 12 ≤ lim := hl
  refine tSetN_use hG hcl hw (c := 0) (by omega) (PN_of (d := .list nmS) (PR_lst (PRA_cons PR_str (PRA_cons PR_str (PRA_cons PR_str (PRA_cons PR_str (PRA_cons PR_str (PRA_cons PR_str (PRA_cons PR_str PRA_nil))))))) (by show 7 ≤ sizeLine; omega))) fun d1 v1 G1 H1 hd1 x1 hw1 dv1 => ?_
  subst hd1
  refine tIfN_use x1.gh x1.cl hw1 (c := 1) (by omega) (TN_drawEq (m := 2) rfl (by decide) (by decide)) fun b G2 H2 _ x2 hw2 => ?_
  have dv2 := dv1.up x2.gg
  cases b with
  | true =>
    exact iteT (tRetN_use x2.gh x2.cl hw2 (c := 10) (by omega) (PN_mixTake (i := 0) rfl (PV dv2) (.inl rfl) (.inl rfl)) fun d v G3 H3 ⟨xs, e1, e2⟩ x3 hw3 dv3 => kq d v G3 H3 ⟨xs, rfl, e1, e2⟩ ((x1.trans x2).trans x3) (hw3.mono (by show _ ≤ n + 12; omega)) dv3)
  | false =>
    refine iteF (nxt ?_)
    have pre : ∀ {σ : L2.St} {G : Hp} {x : Str}, PR (tVar 1) σ G (.list nmS) → (∀ v, wipe ((wipe σ [3]).set 3 (some v)) [3] = wipe σ [3]) → (∀ v, ((wipe σ [3]).set 3 (some v))[3]? = some (some v)) →
        PR (tLc (iList K (tSl (rSlL K) (tVar 1) tNoPart (tPart (tC (.int 3))))) (gName 3) tYes (tTup (tCons (tC (.str x)) (tCons (tVar 3) tNil))) [3]) σ G (.list ((nmS.take 3).map fun n => .tuple [.str x, n])) := fun {σ G x} hn h1 h2 =>
      PR_map1 (bs := nmS.take 3) (enc := id) (by rw [List.map_id]; exact WR_list (PR_slTo (n := 3) hn PR_int)) h1 (fun G1 b v hg hb dv => PR_tup (PRA_two PR_str (PR_var (h2 v) dv)) (by show 2 ≤ sizeLine; omega)) (by rw [hsz]; decide)
    refine tSetN_use x2.gh x2.cl hw2 (c := 0) (by omega) (PN_of (d := .list famB) (PR_op (RR2_cat (by rw [hsz]; decide)) (pre (PV dv2) (fun _ => rfl) (fun _ => rfl)) (pre (PV dv2) (fun _ => rfl) (fun _ => rfl)))) fun d3 v3 G3 H3 hd3 x3 hw3 dv3 => ?_
    subst hd3
    have dv4 := dv2.up x3.gg
    refine tSetN_use x3.gh x3.cl hw3 (c := 1) (by omega) (PN_ifN (c1 := 1) (c2 := 0) (B := fun _ => True) (D := fun d => d = .list famB ∨ d = .list famC) (TN_drawEq (m := 2) rfl (by decide) (by decide)) (fun _ => PN.imp (PN_of (PV dv3)) (Nat.le_refl _) fun e h => .inl h)
      (fun _ => PN.imp (PN_of (d := .list famC) (PR_map1 (bs := nmS) (enc := id) (by rw [List.map_id]; exact WR_list (PV dv4)) (fun _ => rfl) (fun G1 b v hg hb dv => PR_tup (PRA_one (PV dv)) (by show 1 ≤ sizeLine; omega)) (by rw [hsz]; decide))) (Nat.le_refl _) fun e h => .inr h)) fun d5 v5 G5 H5 hd5 x5 hw5 dv5 => ?_
    have tl : ∀ {σ : L2.St} {G : Hp}, PR (tLst (tCons (tTup (tCons (tC (.str "label")) (tCons (tC (.str "x")) (tCons (tC (.str "y")) tNil)))) (tCons (tTup tNil) tNil))) σ G (.list tailF) := fun {σ G} =>
      PR_lst (PRA_two (PR_tup (PRA_cons PR_str (PRA_two PR_str PR_str)) (by show 3 ≤ sizeLine; omega)) (PR_tup PRA_nil (by show 0 ≤ sizeLine; omega))) (by show 2 ≤ sizeLine; omega)
    rcases hd5 with rfl | rfl
    · exact tRetN_use x5.gh x5.cl hw5 (c := 10) (by omega) (PN_mixTake (i := 0) rfl (PR_op (RR2_cat (by rw [hsz]; decide)) (PV dv5) tl) (.inr (.inl rfl)) (.inr (.inl (by decide)))) fun d v G6 H6 ⟨xs, e1, e2⟩ x6 hw6 dv6 => kq d v G6 H6 ⟨xs, rfl, e1, e2⟩ ((((x1.trans x2).trans x3).trans x5).trans x6) (hw6.mono (by show _ ≤ n + 12; omega)) dv6
    · exact tRetN_use x5.gh x5.cl hw5 (c := 10) (by omega) (PN_mixTake (i := 0) rfl (PR_op (RR2_cat (by rw [hsz]; decide)) (PV dv5) tl) (.inr (.inr rfl)) (.inr (.inr (by decide)))) fun d v G6 H6 ⟨xs, e1, e2⟩ x6 hw6 dv6 => kq d v G6 H6 ⟨xs, rfl, e1, e2⟩ ((((x1.trans x2).trans x3).trans x5).trans x6) (hw6.mono (by show _ ≤ n + 12; omega)) dv6
/-! ### _law_some_of -/
abbrev nSome : List Str := ["_law_stream_here", "_law_things_here", "_law_many", "_law_found", "_law_k", "_law_one"]
theorem scSome : FnScope nSome ["_law_stream_here", "_law_things_here", "_law_many"] (defScope sSome) := ⟨rfl, rfl, rfl, by decide +kernel, rfl, by decide +kernel, by decide +kernel⟩
def prSome (ds : List PyData) : Prop := ∃ (xs : List PyData) (m : Nat), ds = [.list xs, .int m] ∧ xs.length ≤ 10 ∧ m ≤ 10
/-- lots of things, each in some order -/
def Lots (xs : List PyData) (m : Nat) (ls : List (List PyData)) : Prop := ls.length ≤ m ∧ ∀ l ∈ ls, ∃ ys : List PyData, ys.Perm xs ∧ l.Sublist ys
def DSome (ds : List PyData) (d : PyData) : Prop := ∃ (xs : List PyData) (m : Nat) (ls : List (List PyData)), ds = [.list xs, .int m] ∧ d = .list (ls.map .list) ∧ Lots xs m ls
theorem sumC_const (k : Nat) : ∀ ds : List PyData, sumC (fun _ => k) ds = ds.length * k
  | [] => by simp [sumC]
  | d :: ds => by simp only [sumC, sumC_const k ds, List.length_cons]; rw [Nat.add_mul]; omega
theorem fn_some (D : Df K mg "_law_some_of" sSome) (FD : FDraw P w K mg base t) (FM : FMix P w K mg base t) (m1 : mg "range" = none) : Fn P w K mg base CX0 "_law_some_of" 3 3 (spS t (fun _ => 300) prSome DSome) := by
  refine D.fn scSome (by rintro vs H Q E ⟨W, G, ds, n, us, ht, rfl, hG, hcl, hw, hl, hd, ⟨xs, m, rfl, hx⟩, k⟩; have := hd.len; simp at this; simp [this]) rfl (fun _ _ _ _ _ _ us hl => match us, hl with | [_, _, _], _ => rfl) fun f cdv A outer s H vs Q E hr hsp => ?_
  obtain ⟨W, G, ds, n, us, rfl, rfl, hG, hcl, hw, hl, hd, ⟨xs, m, rfl, hx, hm⟩, kq⟩ := hsp
  obtain ⟨u, u2, rfl, du, du2⟩ := hd.two
  cases du2
  have hsz : sizeLine = 16777216 := sizeLine_eq
  have hr1 := hr.mono (show 1 ≤ 2 by omega)
  refine ⟨_, pss_cons (ps_set (i := 3) scSome.nd rfl (.inl rfl) (pe_lst pa_nil))
    (pss_cons (ps_for PassesOwn.never rfl (pi_range1 rfl m1 (pa_cons (pe_fn FD hr1 (by rfl) pass0 (pa_cons (pv 0) (pa_cons (pe_op op_add (pv 2) pe_int) pa_nil))) pa_nil)) (pg_name (i := 4) scSome.nd rfl (.inl rfl))
      (pss_one (xs_append (pv 3) (xe_lc1 nSome (defScope sSome) 5 (pi_list (pe_fn FM hr (by rfl) pass0 (pa_cons (pv 0) (pa_cons (pv 1) pa_nil)))) (by decide +kernel) scSome.nd (.inr rfl)
        (fun _ _ _ _ _ => pts_one (pt_cmpR op_lt (pe_fn FD hr1 (by rfl) pass0 (pa_cons (pv 0) (pa_cons pe_int pa_nil))) pe_int (nomark _))) (fun _ _ _ _ _ => pv 5)))))
    (pss_one (ps_ret (pv 3)))), ?_⟩
  have hlim : n + 300 ≤ lim := hl
  refine ⟨by show 0 ≤ sizeLine; omega, fun p hp => ?_⟩
  have g0 : GrW W G H [p] G (upd H p (.lst [])) := (GrW.start hG hcl).new hw hp
  have hw0 := hw.up (same_new (o := .lst []) hp)
  have hdr := PN_draw (W := W) (G := G) (σ := [some (.ref W.st), some u, some (.int m), some (.ref p), none, none]) (i := 0) (tm := tOp (rI0 fun i j => .int (i + j)) (tVar 2) (tC (.int 1))) (m := m + 1) (E := E0) rfl (PR_op RR2_addI (PR_var (i := 2) rfl (.int _)) PR_int) (by omega) (by omega)
  refine hdr (upd H p (.lst [])) n _ g0.x.gh g0.x.cl hw0 (by omega) fun d v G1 H1 ⟨j, hj1, hj2⟩ x1 hw1 dv => ?_
  subst hj1
  cases dv
  have g1 := g0.ext hw x1
  refine ⟨(j : Int), rfl, by omega, by omega, ?_⟩
  rw [Int.toNat_natCast]
  have kp := g0.off hw (List.mem_cons_self ..)
  have e1 : H1 p = some (.lst []) := x1.hh _ _ upd_same ⟨kp.1, kp.2, fun _ z => nomatch z⟩
  refine for_range (lo := 0) (n := j) (fun i σ H2 => ∃ (x4 : Option V) (G2 : Hp) (vl : List V) (ls : List (List PyData)), σ = [some (.ref W.st), some u, some (.int m), some (.ref p), x4, none] ∧ GrW W G H [p] G2 H2 ∧ Same G1 G2 ∧ WOk W (n + 1 + i * 20) H2 ∧ H2 p = some (.lst vl) ∧ DqAll G2 vl (ls.map .list) ∧ ls.length = i ∧ ∀ l ∈ ls, ∃ ys : List PyData, ys.Perm xs ∧ l.Sublist ys) ?_ ?_ ?_
  · exact ⟨none, G1, [], [], rfl, g1, Same.refl _, by simpa using hw1, e1, .nil, rfl, by simp⟩
  · rintro i σ H2 hi ⟨x4, G2, vl, ls, rfl, g, s2, hw2, q1, d1, hl1, hl2⟩
    refine ⟨_, rfl, .inl ⟨rfl, _, SqL.of q1⟩, ?_⟩
    have du2 := du.up (x1.gg.trans s2)
    have hi10 : i * 20 ≤ 200 := by omega
    refine (PN_lc1 (W := W) (G := G2) (c := 10) (ct := 20) (DL := fun ds => ds.Perm xs) (e1 := fun _ => 1) (e2 := fun _ => 0) (FF := fun a b => b = a) (sk := True) (D := fun e => ∃ l ys : List PyData, e = .list l ∧ ys.Perm xs ∧ l.Sublist ys)
      (WN_list (D := fun d => ∃ ys, d = .list ys ∧ ys.Perm xs) (PN.imp (PN_callS (c1 := 0) (c2 := 10) (i := 0) rfl (PNA_of (PRA_one (PR_var (i := 1) rfl du2))) fun ds e => by
        subst e
        refine ⟨⟨xs, rfl, by omega⟩, by show xs.length ≤ 10; omega, fun d ⟨xs', ys, a1, a2, a3⟩ => ?_⟩
        cases a1
        exact ⟨ys, a2, a3⟩) (by omega) fun _ h => h) fun d h => h) (fun _ => rfl) (fun ds hds G3 x v h1 hx2 dv hc1 => ⟨TN.imp (TN_drawLt (m := 5) rfl (by decide) (by decide)) (Nat.le_refl _) fun _ _ _ => trivial, PN.imp (PN_of (PR_var (i := 5) rfl dv)) (Nat.le_refl _) fun _ h => h⟩) (by omega)
      (fun ds hds => by
        have := hds.length_eq
        rw [show (fun d : PyData => (fun _ => 1) d + (fun _ => 0) d) = fun _ => 1 from rfl, sumC_const]
        exact ⟨by omega, by omega⟩) (fun ds ys hds hk => ⟨ys, ds, rfl, hds, hk.sub⟩)) H2 (n + 1 + i * 20) _ g.x.gh g.x.cl hw2 (by omega) fun d v G3 H3 hd3 x3 hw3 dv3 => ?_
    obtain ⟨l, ys, rfl, hy1, hy2⟩ := hd3
    have g3 := g.ext hw x3
    have e3 : H3 p = some (.lst vl) := x3.hh _ _ q1 ⟨kp.1, kp.2, fun _ z => nomatch z⟩
    have hvl := d1.len
    rw [List.length_map] at hvl
    refine ⟨_, _, _, rfl, rfl, e3, by omega, _, G3, vl ++ [v], ls ++ [l], rfl, g3.put (List.mem_cons_self ..), s2.trans x3.gg, ?_, upd_same, ?_, by simp [hl1], fun l' hl' => ?_⟩
    · have := g3.wput (xs := vl ++ [v]) hw hw3 (List.mem_cons_self ..)
      have e : n + 1 + i * 20 + 20 = n + 1 + (i + 1) * 20 := by rw [Nat.add_mul]; omega
      rw [e] at this
      exact this
    · rw [List.map_append]
      exact (d1.up x3.gg).snoc dv3
    · rcases List.mem_append.mp hl' with h | h
      · exact hl2 l' h
      · simp at h
        subst h
        exact ⟨ys, hy1, hy2⟩
  · rintro σ H2 ⟨x4, G2, vl, ls, rfl, g, s2, hw2, q1, d1, hl1, hl2⟩
    obtain ⟨g5, sg⟩ := g.freeze hw q1
    exact ⟨_, rfl, kq (.list (ls.map .list)) _ _ H2 ⟨xs, m, ls, rfl, rfl, by omega, hl2⟩ g5.x (hw2.mono (by show _ ≤ n + 300; omega)) (.lst upd_same (d1.up sg))⟩
end
end K48
set_option Elab.async false
set_option linter.all false
set_option maxRecDepth 100000
set_option maxHeartbeats 4000000
/-! K48g: _law_same -/
namespace K48
open PySem PySem.Spec PyProof.Rows L2 PD StX RZ NdefX LamX
abbrev sSame : Stmt := top 25
section
variable {X : Cx} {K : PySem.W.Frag} {e : Expr} {te : TE} {p q pos p2 p3 p4 p5 : Pos}
theorem kit3 {x T U V : String} {b c d : Bool} (hk : kitB x T = some b) (hu : kitB x U = some c) (hv : kitB x V = some d) : PySem.W.kitAny K (.type x) [.type T, .type U, .type V] = some (b || (c || d)) := by
  refine kitAny_cons (kit_ty hk) (fun e => ?_) (fun e => by rw [e]; rfl)
  rw [e, Bool.false_or]
  exact kit2 hu hv
theorem PR_isi3 {σ : L2.St} {G : Hp} {d : PyData} {T U V : String} {a b c : Bool} (h : PR te σ G d) (hk : kitB (tyOf d) T = some a) (hu : kitB (tyOf d) U = some b) (hv : kitB (tyOf d) V = some c) :
    PR (tCB (rIsiT K) (tCons te (tCons (tTup (tCons (tC (.ty T)) (tCons (tC (.ty U)) (tCons (tC (.ty V)) tNil)))) tNil))) σ G (.bool (a || (b || c))) := fun H Q hs k =>
  h H _ hs fun v G1 H1 e1 dv => ⟨by show 3 ≤ sizeLine; rw [sizeLine_eq]; omega, fun p hp =>
    ⟨v, p, [.ty T, .ty U, .ty V], _, [.type T, .type U, .type V], a || (b || c), rfl, upd_same, .cons (.ty T) (.cons (.ty U) (.cons (.ty V) .nil)), ((dv.up e1.gh).up (same_new hp)).ty,
      kit3 hk hu hv,
      k _ G1 _ (e1.trans (Ext.more e1.gh (same_new hp))) (.bl _)⟩⟩
theorem xe_isi3 {T T' T2 : Str} {U U' U2 : String} {k : Nat} (m : X.mg "isinstance" = none) (mT : X.mg T = none) (mT' : X.mg T' = none) (mT2 : X.mg T2 = none) (hv : bootBuiltins T = some (.type U)) (hv' : bootBuiltins T' = some (.type U')) (hv2 : bootBuiltins T2 = some (.type U2)) (ha : PE X e te) (hg : Gl X "isinstance" := by rfl)
    (hT : Gl X T := by rfl) (hT' : Gl X T' := by rfl) (hT2 : Gl X T2 := by rfl) (hK : X.K = K := by rfl) (hn : T ≠ "__name__" := by decide) (hd : (T == ("__debug__" : Str)) = false := by decide) (hn' : T' ≠ "__name__" := by decide) (hd' : (T' == ("__debug__" : Str)) = false := by decide)
    (hn2 : T2 ≠ "__name__" := by decide) (hd2 : (T2 == ("__debug__" : Str)) = false := by decide)
    (hs : starEach [e, .Tuple [.Name T p2, .Name T' p3, .Name T2 p5] k p4] X.env = (false, eval e X.env) :: starEach [.Tuple [.Name T p2, .Name T' p3, .Name T2 p5] k p4] X.env := by rfl)
    (hs2 : starEach [.Tuple [.Name T p2, .Name T' p3, .Name T2 p5] k p4] X.env = (false, eval (.Tuple [.Name T p2, .Name T' p3, .Name T2 p5] k p4) X.env) :: starEach [] X.env := by rfl)
    (hs3 : starEach [.Name T p2, .Name T' p3, .Name T2 p5] X.env = (false, eval (.Name T p2) X.env) :: starEach [.Name T' p3, .Name T2 p5] X.env := by rfl)
    (hs4 : starEach [.Name T' p3, .Name T2 p5] X.env = (false, eval (.Name T' p3) X.env) :: starEach [.Name T2 p5] X.env := by rfl) (hs5 : starEach [.Name T2 p5] X.env = (false, eval (.Name T2 p5) X.env) :: starEach [] X.env := by rfl)
    (hpl : (backTo pos (starEach [.Tuple [.Name T p2, .Name T' p3, .Name T2 p5] k p4] X.env)).any (·.1) = false := by rfl) :
    PE X (.Call (.Name "isinstance" p) [e, .Tuple [.Name T p2, .Name T' p3, .Name T2 p5] k p4] [] pos) (tCB (rIsiT K) (tCons te (tCons (tTup (tCons (tC (.ty U)) (tCons (tC (.ty U')) (tCons (tC (.ty U2)) tNil)))) tNil))) :=
  hK ▸ pe_callB (call_isiT (X := X)) hg m (by decide +kernel) (pa_cons ha (pa_cons (pe_tup (pa_cons (pe_bltn (v := .ty U) hT mT hv rfl hn hd) (pa_cons (pe_bltn (v := .ty U') hT' mT' hv' rfl hn' hd') (pa_cons (pe_bltn (v := .ty U2) hT2 mT2 hv2 rfl hn2 hd2) pa_nil hs5) hs4) hs3)) pa_nil hs2) hs) (he := hs) (hpl := hpl)
def tNo : TE := fun _ _ _ => False
theorem pe_no : PE X e tNo := ⟨fun _ _ _ _ _ _ h => h.elim⟩
end
section
variable {P : Program} {w : World} {K : PySem.W.Frag} {mg : Str → Option Value} {base : Heap} {t : Tb} {W : Wl} {n m : Nat} {G H H0 : Hp}
/-- at most k deep; leaves are plain data or {} -/
inductive Rel : Nat → PyData → Prop
  | leaf {k : Nat} {d : PyData} : isSeq d = false → (isD d = true → d = .dict []) → (isD d = false → SeqAt.shaped d = true) → Rel k d
  | seq {k : Nat} {d : PyData} : isSeq d = true → (itemsD d).length ≤ 1000 → (∀ x ∈ itemsD d, Rel k x) → Rel (k + 1) d
abbrev nSame : List Str := ["_law_found", "_law_due", "_law_mine", "_law_theirs", "_law_key"]
theorem scSame : FnScope nSame ["_law_found", "_law_due"] (defScope sSame) := ⟨rfl, rfl, rfl, by decide +kernel, rfl, by decide +kernel, by decide +kernel⟩
/-- of equal data the answer is True -/
def DSame (k : Nat) (ds : List PyData) (d : PyData) : Prop := ∃ a, ds = [a, a] ∧ d = .bool true ∧ Rel k a
theorem RR2_neI {i j : Int} : RR2 rNe (.int i) (.int j) (.bool (decide (i ≠ j))) := fun x y G H Q hs h1 h2 k => by
  cases h1
  cases h2
  refine ⟨rfl, ?_⟩
  have e : (!decide (V.int i = V.int j)) = decide (i ≠ j) := by
    by_cases h : i = j
    · subst h; simp
    · rw [decide_eq_false (p := V.int i = V.int j) fun z => h (V.int.inj z), decide_eq_true h]; rfl
  rw [e]
  exact k _ G H (.refl hs) (.bl _)
theorem RR_lenD : RR (fun xs H Q => ∃ a kvs, xs = [V.ref a] ∧ H a = some (.dK kvs) ∧ Q (.int kvs.length) H) [.dict []] (.int 0) := fun vs G H Q hs hd k => by
  obtain ⟨x, rfl, hx⟩ := hd.one
  cases hx with
  | dict ha => exact ⟨_, [], rfl, hs _ _ ha, k _ G H (.refl hs) (.int _)⟩
theorem leaf_shaped {k : Nat} {a : PyData} (h : Rel k a) (hs : isSeq a = false) (hd : isD a = false) : SeqAt.shaped a = true := by
  cases h with
  | leaf _ _ h => exact h hd
  | seq h _ _ => rw [hs] at h; cases h
theorem leaf_dict {k : Nat} {a : PyData} (h : Rel k a) (hs : isSeq a = false) (hd : isD a = true) : a = .dict [] := by
  cases h with
  | leaf _ h _ => exact h hd
  | seq h _ _ => rw [hs] at h; cases h
theorem rel0 {a : PyData} (h : Rel 0 a) (hs : isSeq a = true) : False := by
  cases h with
  | leaf h _ _ => rw [hs] at h; cases h
theorem leaf_eqv {a : PyData} (hs : isSeq a = false) (hd : isD a = false) : PyData.eqv a a = true := by
  cases a <;> first | rfl | (simp [isSeq] at hs; done) | (simp [isD] at hd; done) | simp [PyData.eqv]
theorem dict_all {o : Option V} {G H : Hp} {v : V} {te : TE} {De : Ends} (hs : Same G H) (dv : Dq G v (.dict [])) (k : ∀ v' G' H', Ext G H G' H' → Dq G' v' (.bool true) → De.rt v' H') :
    tRet (tLockE (tCB (rAll K) (tCons (tLc (L2.iKeys (tVar 1)) (gName 4) tYes te [4]) tNil))) De [o, some v, none, none, none] H := by
  cases dv with
  | @dict a ha =>
    refine ⟨a, .dK [], hs _ _ ha, True.intro, fun od => ⟨_, rfl, a, od, rfl, .inl ⟨[], upd_same, fun D hD => ?_⟩⟩⟩
    refine lc_it walk_keys (fun i H2 => H2 = upd (upd H a (.frz od (.dK []))) D (.lst [])) rfl ?_ ?_ ?_
    · rintro i H2 _ rfl
      rw [upd_ne (ne_of_none upd_same hD), upd_same]
    · rintro i x H2 H3 hi
      exact absurd hi (by simp)
    · rintro H2 rfl
      refine ⟨_, [], rfl, SqL.of upd_same, by rw [upd_ne (ne_of_none upd_same hD), upd_same], ?_⟩
      have hD0 : H D = none := NdefX.upd_none hD
      have aD : a ≠ D := ne_of_none (hs _ _ ha) hD0
      have e : upd (upd (upd H a (.frz od (.dK []))) D (.lst [])) a (.dK []) = upd H D (.lst []) := by
        funext b
        by_cases h1 : b = a
        · subst h1; rw [upd_same, upd_ne aD]; exact (hs _ _ ha).symm
        · rw [upd_ne h1]
          by_cases h2 : b = D
          · subst h2; rw [upd_same, upd_same]
          · rw [upd_ne h2, upd_ne h1, upd_ne h2]
      rw [e]
      exact k _ _ _ (Ext.more hs (same_new hD0)) (.bl _)
theorem zipD_self : ∀ ys : List PyData, zipD ys ys = ys.map fun x => .tuple [x, x]
  | [] => rfl
  | y :: ys => by
    have e := zipD_self ys
    unfold zipD at e ⊢
    rw [List.zipWith_cons_cons, e]
    rfl
theorem same_body (k : Nat) (D : Df K mg "_law_same" sSame) (FS : ∀ j, j + 1 = k → Fn P w K mg base CX0 "_law_same" (j + 1) 2 (spP (DSame j))) (m1 : mg "isinstance" = none) (m2 : mg "list" = none) (m3 : mg "tuple" = none) (m4 : mg "len" = none) (m5 : mg "all" = none) (m6 : mg "zip" = none) (m7 : mg "dict" = none) (m8 : mg "bool" = none) :
    Fn P w K mg base CX0 "_law_same" (k + 1) 2 (spP (DSame k)) := by
  refine D.pure scSame (by rintro ds d ⟨a, rfl, _⟩; rfl) rfl (fun _ _ _ _ _ _ us hl => match us, hl with | [_, _], _ => rfl) fun f cdv A outer s H E G vs ds d Q hr hG hv hD kq => ?_
  obtain ⟨a, rfl, rfl, hx⟩ := hD
  obtain ⟨v, u, rfl, dv, du⟩ := hv.two
  have hu := hr.u65
  have hsz : sizeLine = 16777216 := sizeLine_eq
  cases k with
  | zero =>
    refine ⟨_, pss_cons (ps_if (pt_val (xe_isi2 (K := K) (U := "list") (U' := "tuple") m1 m2 m3 (by decide +kernel) (by decide +kernel) (pv 1)))
      (pss_cons (ps_if (pw_or (pt_cmpR op_ne (xe_isi (K := K) (U := "list") m1 m2 (by decide +kernel) (pv 0)) (xe_isi (K := K) (U := "list") m1 m2 (by decide +kernel) (pv 1)) (nomark _)) (pw_or1 (pt_cmpR op_ne (xe_isi (K := K) (U := "tuple") m1 m3 (by decide +kernel) (pv 0)) (xe_isi (K := K) (U := "tuple") m1 m3 (by decide +kernel) (pv 1)) (nomark _)))).pt (pss_one (ps_ret pe_bl)) pss_nil)
      (pss_one (ps_ret (pe_and (pe_cmpR op_eq (xe_len (K := K) m4 (pv 0)) (xe_len (K := K) m4 (pv 1)) (nomark _)) (pe_one (xe_all (K := K) m5
        (pe_lc (own := [("_law_mine", 2), ("_law_theirs", 3)]) (g := gTup K 2 (gCons (gName 2) (gCons (gName 3) gNil))) (tt := tYes) rfl scSame.nd (pi_zipA rfl m6 (pa_cons (pv 0) (pa_cons (pv 1) pa_nil))) (blkOk_by (N := nSame) (sc := defScope sSame) (by decide +kernel))
          (fun _ _ _ _ _ => pg_tup rfl (pgs_cons (pg_name (i := 2) scSame.nd rfl (.inl rfl)) (pgs_cons (pg_name (i := 3) scSame.nd rfl (.inl rfl)) pgs_nil))) (fun _ _ _ _ _ => pts_nil)
          (fun _ _ _ _ _ => pe_no)))))))) pss_nil)
    (pss_cons (ps_if (pt_val (xe_isi (K := K) (U := "dict") m1 m7 (by decide +kernel) (pv 1)))
      (pss_cons (ps_if (pw_or (pt_not (pt_val (xe_isi (K := K) (U := "dict") m1 m7 (by decide +kernel) (pv 0)))) (pw_or1 (pt_cmpR op_ne (pe_callB call_lenD (by rfl) m4 (by decide +kernel) (pa_cons (pv 0) pa_nil)) (pe_callB call_lenD (by rfl) m4 (by decide +kernel) (pa_cons (pv 1) pa_nil)) (nomark _)))).pt (pss_one (ps_ret pe_bl)) pss_nil)
      (pss_one (ps_ret (pe_lock (xe_all (K := K) m5 (xe_lc1 (tt := tYes) nSame (defScope sSame) 4 (pi_keys (pv 1)) (by decide +kernel) scSame.nd (.inr rfl) (fun _ _ _ _ _ => pts_nil) (fun _ _ _ _ _ => pe_no))))))) pss_nil)
    (pss_cons (ps_if (pw_or (pt_val (xe_isi (K := K) (U := "bool") m1 m8 (by decide +kernel) (pv 1))) (pw_or1 (pt_val (xe_isi (K := K) (U := "bool") m1 m8 (by decide +kernel) (pv 0))))).pt
      (pss_one (ps_ret (pe_and (xe_isi (K := K) (U := "bool") m1 m8 (by decide +kernel) (pv 1)) (pe_and (xe_isi (K := K) (U := "bool") m1 m8 (by decide +kernel) (pv 0)) (pe_one (xe_eq (K := K) hu (pv 0) (pv 1))))))) pss_nil)
    (pss_one (ps_ret (pe_and (pe_not (xe_isi3 (K := K) (U := "list") (U' := "tuple") (U2 := "dict") m1 m2 m3 m7 (by decide +kernel) (by decide +kernel) (by decide +kernel) (pv 0))) (pe_one (xe_eq (K := K) hu (pv 0) (pv 1)))))))), ?_⟩
    refine tIf_use (TR_tB (PR_isi2 (PV du) (kitL a) (kitT a))) hG fun H1 e1 => ?_
    rw [isSeq_eq]
    cases hs : isSeq a with
    | true => exact (rel0 hx hs).elim
    | false =>
      refine iteF (nxt ?_)
      refine tIf_use (TR_tB (PR_isi (PV du) (kitD a))) (hG.trans e1) fun H2 e2 => ?_
      have e12 := e1.trans e2
      cases hd : isD a with
      | true =>
        obtain rfl : a = .dict [] := leaf_dict hx hs hd
        refine iteT (tIf_use (b := false) (TR.eq (TR_or (TR_not (TR_tB (PR_isi (PV dv) (kitD _)))) fun _ => TR_test (PR_op (RR2_neI (i := 0) (j := 0)) (PR_CB RR_lenD (PRA_one (PV dv))) (PR_CB RR_lenD (PRA_one (PV du))))) rfl) (hG.trans e12) fun H3 e3 => iteF (nxt ?_))
        exact dict_all (hG.trans (e12.trans e3)) du fun v' G' H' x dv' => kq v' G' H' ((Ext.more hG (e12.trans e3)).trans x) dv'
      | false =>
        refine iteF (nxt ?_)
        have hsh := leaf_shaped hx hs hd
        refine tIf_use (TR_or (TR_tB (PR_isi (PV du) (kitBo a))) fun _ => TR_tB (PR_isi (PV dv) (kitBo a))) (hG.trans e12) fun H3 e3 => ?_
        have e123 := e12.trans e3
        cases hb : isB a with
        | true =>
          refine iteT (tRet_use (hG.trans e123) (PR.eq (PR_andV (PR_isi (PV du) (kitBo a)) fun _ => PR_andV (PR_isi (PV dv) (kitBo a)) fun _ => PR_op (RR2_eq hsh hsh) (PV dv) (PV du)) (by rw [hb, leaf_eqv hs hd]; rfl)) fun v' G' H' x dv' => kq v' G' H' ((Ext.more hG e123).trans x) dv')
        | false =>
          refine iteF (nxt (tRet_use (hG.trans e123) (PR.eq (PR_andV (PR_notV (PR_isi3 (PV dv) (kitL a) (kitT a) (kitD a))) fun _ => PR_op (RR2_eq hsh hsh) (PV dv) (PV du)) ?_) fun v' G' H' x dv' => kq v' G' H' ((Ext.more hG e123).trans x) dv'))
          have e0 := isSeq_eq a
          rw [hs] at e0
          obtain ⟨h1, h2⟩ := Bool.or_eq_false_iff.mp e0
          rw [h1, h2, hd, leaf_eqv hs hd]; rfl
  | succ j =>
    have FS := FS j rfl
    refine ⟨_, pss_cons (ps_if (pt_val (xe_isi2 (K := K) (U := "list") (U' := "tuple") m1 m2 m3 (by decide +kernel) (by decide +kernel) (pv 1)))
      (pss_cons (ps_if (pw_or (pt_cmpR op_ne (xe_isi (K := K) (U := "list") m1 m2 (by decide +kernel) (pv 0)) (xe_isi (K := K) (U := "list") m1 m2 (by decide +kernel) (pv 1)) (nomark _)) (pw_or1 (pt_cmpR op_ne (xe_isi (K := K) (U := "tuple") m1 m3 (by decide +kernel) (pv 0)) (xe_isi (K := K) (U := "tuple") m1 m3 (by decide +kernel) (pv 1)) (nomark _)))).pt (pss_one (ps_ret pe_bl)) pss_nil)
      (pss_one (ps_ret (pe_and (pe_cmpR op_eq (xe_len (K := K) m4 (pv 0)) (xe_len (K := K) m4 (pv 1)) (nomark _)) (pe_one (xe_all (K := K) m5
        (pe_lc (own := [("_law_mine", 2), ("_law_theirs", 3)]) (g := gTup K 2 (gCons (gName 2) (gCons (gName 3) gNil))) (tt := tYes) rfl scSame.nd (pi_zipA rfl m6 (pa_cons (pv 0) (pa_cons (pv 1) pa_nil))) (blkOk_by (N := nSame) (sc := defScope sSame) (by decide +kernel))
          (fun _ _ _ _ _ => pg_tup rfl (pgs_cons (pg_name (i := 2) scSame.nd rfl (.inl rfl)) (pgs_cons (pg_name (i := 3) scSame.nd rfl (.inl rfl)) pgs_nil))) (fun _ _ _ _ _ => pts_nil)
          (fun _ _ _ _ _ => pe_fn FS hr (by rfl) pass0 (pa_cons (pv 2) (pa_cons (pv 3) pa_nil)))))))))) pss_nil)
    (pss_cons (ps_if (pt_val (xe_isi (K := K) (U := "dict") m1 m7 (by decide +kernel) (pv 1)))
      (pss_cons (ps_if (pw_or (pt_not (pt_val (xe_isi (K := K) (U := "dict") m1 m7 (by decide +kernel) (pv 0)))) (pw_or1 (pt_cmpR op_ne (pe_callB call_lenD (by rfl) m4 (by decide +kernel) (pa_cons (pv 0) pa_nil)) (pe_callB call_lenD (by rfl) m4 (by decide +kernel) (pa_cons (pv 1) pa_nil)) (nomark _)))).pt (pss_one (ps_ret pe_bl)) pss_nil)
      (pss_one (ps_ret (pe_lock (xe_all (K := K) m5 (xe_lc1 (tt := tYes) nSame (defScope sSame) 4 (pi_keys (pv 1)) (by decide +kernel) scSame.nd (.inr rfl) (fun _ _ _ _ _ => pts_nil) (fun _ _ _ _ _ => pe_no))))))) pss_nil)
    (pss_cons (ps_if (pw_or (pt_val (xe_isi (K := K) (U := "bool") m1 m8 (by decide +kernel) (pv 1))) (pw_or1 (pt_val (xe_isi (K := K) (U := "bool") m1 m8 (by decide +kernel) (pv 0))))).pt
      (pss_one (ps_ret (pe_and (xe_isi (K := K) (U := "bool") m1 m8 (by decide +kernel) (pv 1)) (pe_and (xe_isi (K := K) (U := "bool") m1 m8 (by decide +kernel) (pv 0)) (pe_one (xe_eq (K := K) hu (pv 0) (pv 1))))))) pss_nil)
    (pss_one (ps_ret (pe_and (pe_not (xe_isi3 (K := K) (U := "list") (U' := "tuple") (U2 := "dict") m1 m2 m3 m7 (by decide +kernel) (by decide +kernel) (by decide +kernel) (pv 0))) (pe_one (xe_eq (K := K) hu (pv 0) (pv 1)))))))), ?_⟩
    refine tIf_use (TR_tB (PR_isi2 (PV du) (kitL a) (kitT a))) hG fun H1 e1 => ?_
    rw [isSeq_eq]
    cases hs : isSeq a with
    | true =>
      obtain ⟨hz, hit⟩ : (itemsD a).length ≤ 1000 ∧ ∀ x ∈ itemsD a, Rel j x := by
        cases hx with
        | leaf h _ _ => rw [hs] at h; cases h
        | seq _ h1 h2 => exact ⟨h1, h2⟩
      have hde : a = .list (itemsD a) ∨ a = .tuple (itemsD a) := by
        cases a with
        | list ds => exact .inl rfl
        | tuple ds => exact .inr rfl
        | _ => simp [isSeq] at hs
      refine iteT (tIf_use (b := false) (TR.eq (TR_or (TR_test (PR_op RR2_neB (PR_isi (PV dv) (kitL a)) (PR_isi (PV du) (kitL a)))) fun _ => TR_test (PR_op RR2_neB (PR_isi (PV dv) (kitT a)) (PR_isi (PV du) (kitT a)))) (by simp)) (hG.trans e1) fun H2 e2 => iteF (nxt ?_))
      have e12 := e1.trans e2
      generalize hys : itemsD a = ys at hz hit hde
      have each : ∀ {σ : L2.St} {G1 : Hp} {wi : TI}, WR wi σ G1 (zipD ys ys) → (∀ v u, wipe (((wipe σ [2, 3]).set 2 (some v)).set 3 (some u)) [2, 3] = wipe σ [2, 3]) → (∀ v u, (((wipe σ [2, 3]).set 2 (some v)).set 3 (some u))[2]? = some (some v) ∧ (((wipe σ [2, 3]).set 2 (some v)).set 3 (some u))[3]? = some (some u)) →
          PR (tCB (rAll K) (tCons (tLc wi (gTup K 2 (gCons (gName 2) (gCons (gName 3) gNil))) tYes (tCall (spP (DSame j)) [] E0 (tCons (tVar 2) (tCons (tVar 3) tNil))) [2, 3]) tNil)) σ G1 (.bool true) := fun {σ G1 wi} hw h1 h2 => by
        refine PR.eq (PR_all (bs := ys) (q := fun _ => true) (PR_map2 (enc := fun x => .tuple [x, x]) (e1 := id) (e2 := id) (fun _ _ => rfl) (by rw [← zipD_self]; exact hw) h1 (fun G2 x v u hg hx2 dv du => ?_) (by omega))) (by rw [List.all_eq_true.mpr fun _ _ => rfl])
        exact PR_call (PRA_two (PR_var (h2 v u).1 dv) (PR_var (h2 v u).2 du)) ⟨x, rfl, rfl, hit x hx2⟩
      rcases hde with rfl | rfl
      · exact tRet_use (hG.trans e12) (PR.eq (PR_andV (b := true) (c := true) (PR.eq (PR_op RR2_eqI (PR_CB RR_lenL (PRA_one (PV dv))) (PR_CB RR_lenL (PRA_one (PV du)))) (by simp)) fun _ => each (WR_zipL (PRA_two (PV dv) (PV du))) (fun _ _ => rfl) (fun _ _ => ⟨rfl, rfl⟩)) rfl) fun v' G' H' x dv' => kq v' G' H' ((Ext.more hG e12).trans x) dv'
      · exact tRet_use (hG.trans e12) (PR.eq (PR_andV (b := true) (c := true) (PR.eq (PR_op RR2_eqI (PR_CB RR_lenT (PRA_one (PV dv))) (PR_CB RR_lenT (PRA_one (PV du)))) (by simp)) fun _ => each (WR_zipT (PRA_two (PV dv) (PV du))) (fun _ _ => rfl) (fun _ _ => ⟨rfl, rfl⟩)) rfl) fun v' G' H' x dv' => kq v' G' H' ((Ext.more hG e12).trans x) dv'
    | false =>
      refine iteF (nxt ?_)
      refine tIf_use (TR_tB (PR_isi (PV du) (kitD a))) (hG.trans e1) fun H2 e2 => ?_
      have e12 := e1.trans e2
      cases hd : isD a with
      | true =>
        obtain rfl : a = .dict [] := leaf_dict hx hs hd
        refine iteT (tIf_use (b := false) (TR.eq (TR_or (TR_not (TR_tB (PR_isi (PV dv) (kitD _)))) fun _ => TR_test (PR_op (RR2_neI (i := 0) (j := 0)) (PR_CB RR_lenD (PRA_one (PV dv))) (PR_CB RR_lenD (PRA_one (PV du))))) rfl) (hG.trans e12) fun H3 e3 => iteF (nxt ?_))
        exact dict_all (hG.trans (e12.trans e3)) du fun v' G' H' x dv' => kq v' G' H' ((Ext.more hG (e12.trans e3)).trans x) dv'
      | false =>
        refine iteF (nxt ?_)
        have hsh := leaf_shaped hx hs hd
        refine tIf_use (TR_or (TR_tB (PR_isi (PV du) (kitBo a))) fun _ => TR_tB (PR_isi (PV dv) (kitBo a))) (hG.trans e12) fun H3 e3 => ?_
        have e123 := e12.trans e3
        cases hb : isB a with
        | true =>
          refine iteT (tRet_use (hG.trans e123) (PR.eq (PR_andV (PR_isi (PV du) (kitBo a)) fun _ => PR_andV (PR_isi (PV dv) (kitBo a)) fun _ => PR_op (RR2_eq hsh hsh) (PV dv) (PV du)) (by rw [hb, leaf_eqv hs hd]; rfl)) fun v' G' H' x dv' => kq v' G' H' ((Ext.more hG e123).trans x) dv')
        | false =>
          refine iteF (nxt (tRet_use (hG.trans e123) (PR.eq (PR_andV (PR_notV (PR_isi3 (PV dv) (kitL a) (kitT a) (kitD a))) fun _ => PR_op (RR2_eq hsh hsh) (PV dv) (PV du)) ?_) fun v' G' H' x dv' => kq v' G' H' ((Ext.more hG e123).trans x) dv'))
          have e0 := isSeq_eq a
          rw [hs] at e0
          obtain ⟨h1, h2⟩ := Bool.or_eq_false_iff.mp e0
          rw [h1, h2, hd, leaf_eqv hs hd]; rfl
theorem fn_same (D : Df K mg "_law_same" sSame) (m1 : mg "isinstance" = none) (m2 : mg "list" = none) (m3 : mg "tuple" = none) (m4 : mg "len" = none) (m5 : mg "all" = none) (m6 : mg "zip" = none) (m7 : mg "dict" = none) (m8 : mg "bool" = none) :
    ∀ k : Nat, Fn P w K mg base CX0 "_law_same" (k + 1) 2 (spP (DSame k))
  | 0 => same_body 0 D (fun j h => by omega) m1 m2 m3 m4 m5 m6 m7 m8
  | k + 1 => same_body (k + 1) D (fun j h => by
      have e : j = k := by omega
      subst e
      exact fn_same D m1 m2 m3 m4 m5 m6 m7 m8 j) m1 m2 m3 m4 m5 m6 m7 m8
end
end K48
set_option Elab.async false
set_option linter.all false
set_option maxRecDepth 100000
set_option maxHeartbeats 4000000
/-! K48h: _law_each_once, _law_meets, _law_within, _law_least_of; sorted lists of lists -/
namespace K48
open PySem PySem.Spec PyProof.Rows L2 PD StX RZ NdefX LamX
abbrev sOnce : Stmt := top 23
abbrev sMeets : Stmt := top 30
abbrev sWithinL : Stmt := top 31
abbrev sLeastOf : Stmt := top 33
/-! ### sorted lists of lists -/
def sortLD (ls : List (List PyData)) : List (List PyData) := ls.mergeSort fun a b => leD (.list a) (.list b)
theorem sortD_lists (ls : List (List PyData)) : sortD (ls.map .list) = (sortLD ls).map .list := by
  unfold sortD sortLD
  rw [List.map_mergeSort (r := fun (a b : List PyData) => leD (.list a) (.list b)) (s := leD) (f := PyData.list) (fun _ _ _ _ => rfl)]
theorem sortLD_mem {ls : List (List PyData)} {l : List PyData} : l ∈ sortLD ls ↔ l ∈ ls := (List.mergeSort_perm ls _).mem_iff
theorem sortLD_len (ls : List (List PyData)) : (sortLD ls).length = ls.length := (List.mergeSort_perm ls _).length_eq
theorem alikeAll_of : ∀ {xs ys : List PyData}, (∀ x ∈ xs, ∀ y ∈ ys, PySem.W.alike x y = true) → PySem.W.alikeAll xs ys = true
  | [], _, _ => by rw [PySem.W.alikeAll]
  | _ :: _, [], _ => by rw [PySem.W.alikeAll]
  | x :: xs, y :: ys, h => by
    rw [PySem.W.alikeAll, h x (List.mem_cons_self ..) y (List.mem_cons_self ..), alikeAll_of fun a ha b hb => h a (List.mem_cons_of_mem _ ha) b (List.mem_cons_of_mem _ hb)]
    rfl
/-- lists of things that are alike -/
def KinL (A : List PyData) (ls : List (List PyData)) : Prop := Kin A ∧ ∀ l ∈ ls, ∀ x ∈ l, x ∈ A
theorem KinL.sortOk {A : List PyData} {ls : List (List PyData)} (h : KinL A ls) : SortOk (ls.map .list) := by
  have sh : ∀ l ∈ ls, ShL 3 l := fun l hl d hd => h.1.shL d (h.2 l hl d hd)
  refine ⟨fun a ha b hb => ?_, fun d hd => ?_⟩
  · obtain ⟨l, hl, rfl⟩ := List.mem_map.mp ha
    obtain ⟨l', hl', rfl⟩ := List.mem_map.mp hb
    rw [PySem.W.alike]
    exact alikeAll_of fun x hx y hy => h.1.1 x (h.2 l hl x hx) y (h.2 l' hl' y hy)
  · obtain ⟨l, hl, rfl⟩ := List.mem_map.mp hd
    have s := (sh l hl).list
    exact ⟨fun z => (nomatch z), Nat.le_trans s.2 (by decide), s.noDict⟩
theorem RR_sortedL {K : PySem.W.Frag} {A : List PyData} {ls : List (List PyData)} (h : KinL A ls) : RR (rSortedD K) [.list (ls.map .list)] (.list ((sortLD ls).map .list)) := by
  rw [← sortD_lists]
  exact RR_sorted h.sortOk
section
variable {P : Program} {w : World} {K : PySem.W.Frag} {mg : Str → Option Value} {base : Heap} {t : Tb} {W : Wl} {n m : Nat} {G H H0 : Hp}
/-! ### _law_meets, _law_within -/
def meetsD (xs ys : List PyData) : Bool := xs.any fun a => hasD ys a
abbrev nMeets : List Str := ["_law_lot", "_law_other", "_law_one"]
theorem scMeets : FnScope nMeets ["_law_lot", "_law_other"] (defScope sMeets) := ⟨rfl, rfl, rfl, by decide +kernel, rfl, by decide +kernel, by decide +kernel⟩
theorem scWithinL : FnScope nMeets ["_law_lot", "_law_other"] (defScope sWithinL) := ⟨rfl, rfl, rfl, by decide +kernel, rfl, by decide +kernel, by decide +kernel⟩
def DMeets (ds : List PyData) (d : PyData) : Prop := ∃ xs ys, ds = [.list xs, .list ys] ∧ d = .bool (meetsD xs ys) ∧ ShL 10 xs ∧ ShL 10 ys ∧ xs.length ≤ 1000
theorem fn_meets (D : Df K mg "_law_meets" sMeets) (m1 : mg "any" = none) : Fn P w K mg base CX0 "_law_meets" 1 2 (spP DMeets) := by
  refine D.pure scMeets (by rintro ds d ⟨a, b, rfl, _⟩; rfl) rfl (fun _ _ _ _ _ _ us hl => match us, hl with | [_, _], _ => rfl) fun f cdv A outer s H E G vs ds d Q hr hG hv hD k => ?_
  obtain ⟨xs, ys, rfl, rfl, hx, hy, hz⟩ := hD
  obtain ⟨v, u, rfl, dv, du⟩ := hv.two
  have hu := hr.u65
  refine ⟨_, pss_one (ps_ret (xe_any (K := K) m1 (xe_lc1 (tt := tYes) nMeets (defScope sMeets) 2 (pi_list (pv 0)) (by decide +kernel) scMeets.nd (.inr rfl) (fun _ _ _ _ _ => pts_nil)
    (fun _ _ _ _ _ => xe_in (K := K) hu (pv 2) (pv 1))))), ?_⟩
  exact (PR_any (bs := xs) (q := fun a => hasD ys a) (PR_map1 (enc := id) (by rw [List.map_id]; exact WR_list (PR_var rfl dv)) (fun _ => rfl) (fun G1 b v h1 hb dv => PR_op (RR2_in ((hx b hb).shaped (by decide)) (hy.list.shaped (by decide))) (PR_var rfl dv) (PR_var rfl (du.up h1))) (by rw [sizeLine_eq]; omega))) H Q hG k
theorem fn_withinL (D : Df K mg "_law_within" sWithinL) (m1 : mg "all" = none) : Fn P w K mg base CX0 "_law_within" 1 2 (spP DWithin) := by
  refine D.pure scWithinL (by rintro ds d ⟨a, b, rfl, _⟩; rfl) rfl (fun _ _ _ _ _ _ us hl => match us, hl with | [_, _], _ => rfl) fun f cdv A outer s H E G vs ds d Q hr hG hv hD k => ?_
  obtain ⟨xs, ys, rfl, rfl, hx, hy, hz⟩ := hD
  obtain ⟨v, u, rfl, dv, du⟩ := hv.two
  have hu := hr.u65
  refine ⟨_, pss_one (ps_ret (xe_all (K := K) m1 (xe_lc1 (tt := tYes) nMeets (defScope sWithinL) 2 (pi_list (pv 0)) (by decide +kernel) scWithinL.nd (.inr rfl) (fun _ _ _ _ _ => pts_nil)
    (fun _ _ _ _ _ => xe_in (K := K) hu (pv 2) (pv 1))))), ?_⟩
  exact (PR_all (bs := xs) (q := fun a => hasD ys a) (PR_map1 (enc := id) (by rw [List.map_id]; exact WR_list (PR_var rfl dv)) (fun _ => rfl) (fun G1 b v h1 hb dv => PR_op (RR2_in ((hx b hb).shaped (by decide)) (hy.list.shaped (by decide))) (PR_var rfl dv) (PR_var rfl (du.up h1))) (by rw [sizeLine_eq]; omega))) H Q hG k
/-! ### _law_each_once -/
def onceStep (acc : List PyData) (x : PyData) : List PyData := if hasD acc x = true then acc else acc ++ [x]
def onceD (xs : List PyData) : List PyData := xs.foldl onceStep []
theorem once_fold_sub : ∀ (xs acc : List PyData) (d : PyData), d ∈ xs.foldl onceStep acc → d ∈ acc ∨ d ∈ xs
  | [], acc, d, h => .inl h
  | x :: xs, acc, d, h => by
    rw [List.foldl_cons] at h
    rcases once_fold_sub xs _ d h with q | q
    · unfold onceStep at q
      split at q
      · exact .inl q
      · rcases List.mem_append.mp q with q | q
        · exact .inl q
        · exact .inr (by simp at q; simp [q])
    · exact .inr (List.mem_cons_of_mem _ q)
theorem once_fold_len : ∀ (xs acc : List PyData), (xs.foldl onceStep acc).length ≤ acc.length + xs.length
  | [], acc => by simp
  | x :: xs, acc => by
    rw [List.foldl_cons]
    have h := once_fold_len xs (onceStep acc x)
    have h2 : (onceStep acc x).length ≤ acc.length + 1 := by unfold onceStep; split <;> simp
    simp only [List.length_cons]
    omega
abbrev nOnce : List Str := ["_law_some", "_law_found", "_law_thing"]
theorem scOnce : FnScope nOnce ["_law_some"] (defScope sOnce) := ⟨rfl, rfl, rfl, by decide +kernel, rfl, by decide +kernel, by decide +kernel⟩
def DOnce (ds : List PyData) (d : PyData) : Prop := ∃ xs, ds = [.list xs] ∧ d = .list (onceD xs) ∧ ShL 10 xs ∧ xs.length ≤ 100000
theorem fn_once (D : Df K mg "_law_each_once" sOnce) : Fn P w K mg base CX0 "_law_each_once" 1 1 (spP DOnce) := by
  refine D.pure scOnce (by rintro ds d ⟨a, rfl, _⟩; rfl) rfl (fun _ _ _ _ _ _ us hl => match us, hl with | [_], _ => rfl) fun f cdv A outer s H E G vs ds d Q hr hG hv hD k => ?_
  obtain ⟨xs, rfl, rfl, hx, hz⟩ := hD
  obtain ⟨v, rfl, da⟩ := hv.one
  have hu := hr.u65
  have hsz : sizeLine = 16777216 := sizeLine_eq
  refine ⟨_, pss_cons (ps_set (i := 1) scOnce.nd rfl (.inl rfl) (pe_lst pa_nil))
    (pss_cons (ps_for PassesOwn.never rfl (pi_list (pv 0)) (pg_name (i := 2) scOnce.nd rfl (.inl rfl))
      (pss_one (xs_extend (pv 1) (pe_ifExp (xt_notin (K := K) hu (pv 2) (pv 1)) (pe_lst (pa_cons (pv 2) pa_nil)) (pe_lst pa_nil)))))
    (pss_one (ps_ret (pv 1)))), ?_⟩
  refine ⟨by show 0 ≤ sizeLine; omega, fun p hp => ?_⟩
  have g0 : Gr G H [p] G (upd H p (.lst [])) := (Gr.start hG).new hp
  refine tFor_use (ds := xs) g0.gh (WR_list (PV da)) fun J G1 H1 e1 dw => ?_
  refine for_nm dw (fun i σ H2 => ∃ (G2 : Hp) (acc : List V) (vo : Option V), σ = [some v, some (.ref p), vo] ∧ Gr G H [p] G2 H2 ∧ Same G1 G2 ∧ H2 p = some (.lst acc) ∧ DqAll G2 acc ((xs.take i).foldl onceStep [])) ?_ ?_ ?_ ?_
  · exact ⟨G1, [], none, rfl, g0.ext e1, Same.refl _, e1.hh _ _ upd_same, .nil⟩
  · rintro i σ H2 _ ⟨G2, acc, vo, rfl, g, h1, _⟩
    exact h1.trans g.gh
  · rintro i dd x σ H2 H3 q1 ⟨G2, acc, vo, rfl, g, h1, hacc, hd⟩ q2 q3
    obtain ⟨G3, g3, s3, dx⟩ := g.yld h1 q3
    have hacc3 := q2 _ _ hacc
    have hd3 := hd.up s3
    have hm : dd ∈ xs := List.mem_of_getElem? q1
    have mem0 : ∀ o, o ∈ (xs.take i).foldl onceStep [] → o ∈ xs := fun o ho => (once_fold_sub _ _ _ ho).elim (fun z => by simp at z) fun z => List.mem_of_mem_take z
    have len0 : ((xs.take i).foldl onceStep []).length ≤ 100000 := by
      have q := once_fold_len (xs.take i) []
      rw [List.length_take] at q
      simp only [List.length_nil] at q
      omega
    obtain ⟨t1, t2⟩ := g3.tmp (List.mem_cons_self ..) hacc3
    have hfold := foldl_take onceStep [] xs i dd q1
    generalize (xs.take i).foldl onceStep [] = F at hd3 mem0 len0 hfold
    have hF : ShL 10 F := fun d hd => hx d (mem0 d hd)
    have test : TR (tTest (tOp (rNotInD K) (tVar 2) (tVar 1))) [some v, some (.ref p), some x] (upd G3 p (.lst acc)) (!hasD F dd) :=
      TR_test (PR_op (RR2_notin ((hx dd hm).shaped (by decide)) (hF.list.shaped (by decide))) (PR_var rfl (dx.up t2)) (PR_var rfl (.lst upd_same (hd3.up t2))))
    refine ⟨_, rfl, .inl ⟨rfl, _, SqL.of hacc3⟩, ?_⟩
    refine test H3 _ t1 fun H4 e4 => ?_
    have g4 := g3.same e4
    have hacc4 := e4 _ _ hacc3
    have hl := hd3.len
    cases hb : hasD F dd with
    | true =>
      refine iteF ⟨by show 0 ≤ sizeLine; omega, fun q hq => ?_⟩
      have s5 := same_new (o := .lst []) hq
      refine ⟨_, _, acc, [], rfl, rfl, s5 _ _ hacc4, upd_same, by simp; omega, G3, acc ++ [], some x, rfl, (g4.same s5).put (List.mem_cons_self ..), h1.trans s3, upd_same, ?_⟩
      rw [hfold, List.append_nil]
      unfold onceStep
      rw [if_pos hb]
      exact hd3
    | false =>
      refine iteT ⟨_, rfl, by show 1 ≤ sizeLine; omega, fun q hq => ?_⟩
      have s5 := same_new (o := .lst [x]) hq
      refine ⟨_, _, acc, [x], rfl, rfl, s5 _ _ hacc4, upd_same, by simp; omega, G3, acc ++ [x], some x, rfl, (g4.same s5).put (List.mem_cons_self ..), h1.trans s3, upd_same, ?_⟩
      rw [hfold]
      unfold onceStep
      rw [if_neg (by rw [hb]; simp)]
      exact hd3.snoc dx
  · rintro σ H2 ⟨G2, acc, vo, rfl, g, h1, hacc, hd⟩
    have gf := g.freeze hacc
    rw [List.take_length] at hd
    exact ⟨_, rfl, k _ _ _ gf.done (.lst upd_same (hd.up (g.tmp (List.mem_cons_self ..) hacc).2))⟩
/-! ### _law_least_of -/
def onceLStep (acc : List (List PyData)) (x : List PyData) : List (List PyData) := if hasD (acc.map .list) (.list x) = true then acc else acc ++ [x]
def onceLD (L : List (List PyData)) : List (List PyData) := L.foldl onceLStep []
theorem onceL_fold : ∀ (L acc : List (List PyData)), (L.map .list).foldl onceStep (acc.map .list) = (L.foldl onceLStep acc).map .list
  | [], acc => rfl
  | x :: L, acc => by
    rw [List.map_cons, List.foldl_cons, List.foldl_cons, ← onceL_fold L]
    congr 1
    unfold onceStep onceLStep
    split
    · rfl
    · rw [List.map_append]; rfl
theorem onceD_lists (L : List (List PyData)) : onceD (L.map .list) = (onceLD L).map .list := onceL_fold L []
theorem onceL_sub : ∀ (L acc : List (List PyData)) (l : List PyData), l ∈ L.foldl onceLStep acc → l ∈ acc ∨ l ∈ L
  | [], acc, d, h => .inl h
  | x :: xs, acc, d, h => by
    rw [List.foldl_cons] at h
    rcases onceL_sub xs _ d h with q | q
    · unfold onceLStep at q
      split at q
      · exact .inl q
      · rcases List.mem_append.mp q with q | q
        · exact .inl q
        · exact .inr (by simp at q; simp [q])
    · exact .inr (List.mem_cons_of_mem _ q)
theorem onceLD_sub {L : List (List PyData)} {l : List PyData} (h : l ∈ onceLD L) : l ∈ L := (onceL_sub _ _ _ h).elim (fun z => by simp at z) id
def leastOfD (ls : List (List PyData)) : List (List PyData) := sortLD ((onceLD (ls.map sortD)).filter fun l => !(onceLD (ls.map sortD)).any fun o => withinD o l && !PyData.eqv (.list o) (.list l))
abbrev nLeastOf : List Str := ["_law_things_here", "_law_lots_here", "_law_some", "_law_lot", "_law_one"]
theorem scLeastOf : FnScope nLeastOf ["_law_things_here", "_law_lots_here"] (defScope sLeastOf) := ⟨rfl, rfl, rfl, by decide +kernel, rfl, by decide +kernel, by decide +kernel⟩
def DLeastOf (ds : List PyData) (d : PyData) : Prop := ∃ a A ls, ds = [a, .list (ls.map .list)] ∧ d = .list ((leastOfD ls).map .list) ∧ KinL A ls ∧ (∀ l ∈ ls, l.length ≤ 1000) ∧ ls.length ≤ 1000
abbrev leastOfC : Scope := compSc (subE 1 (valOf (stAt (defBody sLeastOf) 1)))
theorem fn_leastOf (D : Df K mg "_law_least_of" sLeastOf) (FO : Fn P w K mg base CX0 "_law_each_once" 1 1 (spP DOnce)) (FW : Fn P w K mg base CX0 "_law_within" 1 2 (spP DWithin)) (m1 : mg "any" = none) (m2 : mg "sorted" = none) :
    Fn P w K mg base CX0 "_law_least_of" 2 2 (spP DLeastOf) := by
  refine D.pure scLeastOf (by rintro ds d ⟨a, A, ls, rfl, _⟩; rfl) rfl (fun _ _ _ _ _ _ us hl => match us, hl with | [_, _], _ => rfl) fun f cdv A' outer s H E G vs ds d Q hr hG hv hD k => ?_
  obtain ⟨a, A, ls, rfl, rfl, hk, hl1, hl2⟩ := hD
  obtain ⟨v, u, rfl, dv, du⟩ := hv.two
  have hu := hr.u65
  have hsz : sizeLine = 16777216 := sizeLine_eq
  refine ⟨_, pss_cons (ps_set (i := 2) scLeastOf.nd rfl (.inr rfl) (pe_fn FO hr (by rfl) pass0 (pa_cons (xe_lc1 (tt := tYes) nLeastOf (defScope sLeastOf) 3 (pi_list (pv 1)) (by decide +kernel) scLeastOf.nd (.inr rfl) (fun _ _ _ _ _ => pts_nil) (fun _ _ _ _ _ => xe_sorted (K := K) m2 hu (pv 3))) pa_nil)))
    (pss_one (ps_ret (xe_sorted (K := K) m2 hu (xe_lc1 nLeastOf (defScope sLeastOf) 3 (pi_list (pv 2)) (by decide +kernel) scLeastOf.nd (.inl rfl)
      (fun _ _ _ _ _ => pts_one (pt_not (pt_val (xe_any (K := K) m1 (xe_lc1 (tt := tYes) nLeastOf (relS leastOfC (defScope sLeastOf)) 4 (xi_list (K := K) (pv 2)) (by decide +kernel) scLeastOf.nd (.inr rfl) (fun _ _ _ _ _ => pts_nil)
        (fun _ _ _ _ _ => pe_and (pe_fn FW hr (by rfl) pass0 (pa_cons (pv 4) (pa_cons (pv 3) pa_nil))) (pe_one (xe_ne (K := K) hu (pv 4) (pv 3)))))))))
      (fun _ _ _ _ _ => pv 3))))), ?_⟩
  have sok : ∀ l ∈ ls, SortOk l := fun l hl => (hk.1.sub (hk.2 l hl)).sortOk
  have hS : ∀ l ∈ ls.map sortD, ShL 3 l ∧ l.length ≤ 1000 ∧ ∀ x ∈ l, x ∈ A := fun l hl => by
    obtain ⟨o, ho, rfl⟩ := List.mem_map.mp hl
    exact ⟨fun d hd => hk.1.shL d (hk.2 o ho d (sortD_mem.mp hd)), by rw [sortD_len]; exact hl1 o ho, fun x hx => hk.2 o ho x (sortD_mem.mp hx)⟩
  refine tSet_use (d := .list ((onceLD (ls.map sortD)).map .list)) hG (PR_call (PRA_one (d := .list ((ls.map sortD).map .list)) (PR.eq (PR_map1 (bs := ls) (enc := .list) (f := fun l => .list (sortD l)) (WR_list (PV du)) (fun _ => rfl) (fun G1 b v h1 hb dv => PR_CB (RR_sorted (sok b hb)) (PRA_one (PV dv))) (by omega)) (by rw [List.map_map]; rfl))) ⟨_, rfl, by rw [onceD_lists], fun d hd => ?_, by simp; omega⟩) fun vf G1 H1 e1 df => ?_
  · obtain ⟨l, hl, rfl⟩ := List.mem_map.mp hd
    exact (hS l hl).1.list.mono (by decide)
  · have mem : ∀ l ∈ onceLD (ls.map sortD), ShL 3 l ∧ l.length ≤ 1000 ∧ ∀ x ∈ l, x ∈ A := fun l hl => hS l (onceLD_sub hl)
    have hlen : (onceLD (ls.map sortD)).length ≤ 1000 := by
      have q := once_fold_len ((ls.map sortD).map PyData.list) []
      have e := onceD_lists (ls.map sortD)
      unfold onceD at e
      rw [e] at q
      simp only [List.length_map, List.length_nil] at q
      omega
    unfold leastOfD at k
    generalize onceLD (ls.map sortD) = L at df mem hlen k
    refine tRet_use e1.gh (PR_CB (RR_sortedL (A := A) (ls := L.filter fun l => !L.any fun o => withinD o l && !PyData.eqv (.list o) (.list l)) ⟨hk.1, fun l hl => (mem l (List.mem_filter.mp hl).1).2.2⟩) (PRA_one (PR_lc1 (bs := L) (enc := .list) (f := .list) (p := fun l => !L.any fun o => withinD o l && !PyData.eqv (.list o) (.list l)) (WR_list (PV df)) (fun _ => rfl)
      (fun G2 l v h2 hl dv => ⟨TR_not (TR_tB (PR_any (bs := L) (q := fun o => withinD o l && !PyData.eqv (.list o) (.list l)) (PR_map1 (enc := .list) (WR_list (PV (df.up h2))) (fun _ => rfl) (fun G3 o u h3 ho du => PR_andV (PR_call (PRA_two (PV du) (PV (dv.up h3))) ⟨o, l, rfl, rfl, (mem o ho).1.mono (by decide), (mem l hl).1.mono (by decide), (mem o ho).2.1⟩) fun _ =>
        PR_op (RR2_ne ((mem o ho).1.list.shaped (by decide)) ((mem l hl).1.list.shaped (by decide))) (PV du) (PV (dv.up h3))) (by omega)))), fun _ => PV dv⟩) (by omega)))) fun v' G' H' x dv' => k v' G' H' (e1.trans x) dv'
end
end K48
set_option Elab.async false
set_option linter.all false
set_option maxRecDepth 100000
set_option maxHeartbeats 4000000
/-! PdSortK: sorted(xs, key=f), f a function value whose keys are tuples that may hold lists -/
namespace PD
open PySem PySem.W PySem.SeqAt PyProof.Rows L2 NdefX LamX
theorem fpok_turn {X : L2.Cx} {pins : List (Addr × Obj)} {σ : L2.St} {H H0 : L2.Hp} {s s' : Shared} {h' : Heap} {a : Addr} {t' : Nat} (I : L2.Inv X pins σ H s') (lo : s.heap.objs.size ≤ a) (I0 : L2.Inv X pins σ H0 s) (hn : H a = none) (k : ∀ b o, b ≠ a → s'.heap.get? b = some o → h'.get? b = some o) : L2.Inv X pins σ H { s' with heap := h', toks := t' } := by
  obtain ⟨f0, f1, f2, f3, f4, f5⟩ := I0.fpOk lo hn
  exact I.turned k f0 f1 f3 f4 f5
/-- how it stands between two keys -/
structure KeyI (X : L2.Cx) (pins : List (Addr × Obj)) (σ : L2.St) (H0 : L2.Hp) (a kS e1 : Nat) (kz : List PyData) (Pv : Nat → L2.Hp → Prop) (lo : Nat) (i : Nat) (s' : Shared) : Prop where
  ex : ∃ (H1 : L2.Hp) (kA : Array Value) (e : Nat) (ks : List L2.V), L2.Inv X pins σ H1 s' ∧ L2.Same H0 H1 ∧ H1 a = none ∧ H1 kS = none ∧ s'.heap.get? kS = some (seqObj "list" kA e) ∧ s'.heap.get? a = some (seqObj "list" #[] e1) ∧ L2.Vals ks kA.toList ∧ DqAll H1 ks (kz.take i) ∧ Pv i H1
theorem vals_zip : ∀ {xs : List L2.V} {us : List Value} {kz : List PyData}, L2.Vals xs us → kz.length = xs.length → EachIs (fun u (b : L2.V × PyData) => L2.RelV b.1 u) us (xs.zip kz)
  | _, _, [], .nil, _ => .nil
  | _, _, _ :: _, .nil, h => by simp at h
  | _, _, [], .cons _ _, h => by simp at h
  | _, _, d :: kz, .cons r t, h => .cons r (vals_zip t (by simpa using h))
theorem sortK_run {X : L2.Cx} {pins : List (Addr × Obj)} {σ : L2.St} {H : L2.Hp} {s : Shared} {l f : Addr} {k : Nat} {sp : L2.Sp} {xs : List L2.V} {kz : List PyData} {Pv : Nat → L2.Hp → Prop} {Q : L2.VK} (c : Cal X.prog X.w X.K X.mg X.base k f 1 sp) (hr : L2.Room (k + 2) X.A) (I : L2.Inv X pins σ H s) (hs : L2.SqL X.K H l xs) (h0 : Pv 0 H)
    (hkz : kz.length = xs.length) (hal : AllAlike kz) (hsk : Sortable kz) (hdp : ∀ d, d ∈ kz → d.depth ≤ 60 ∧ noDict d = true)
    (turn : ∀ i v d H1, Same H H1 → Pv i H1 → xs[i]? = some v → kz[i]? = some d → sp [v] H1 (fun u H2 => Same H1 H2 ∧ Dq H2 u d ∧ Pv (i + 1) H2) (fun _ _ _ => False))
    (h : ∀ H1 p, Same H H1 → Pv xs.length H1 → H1 p = none → Q (.ref p) (L2.upd H1 p (.lst (((xs.zip kz).mergeSort fun b c => leD b.2 c.2).map (·.1))))) :
    wpAny (model X.prog X.w) X.A (call (.builtin "sorted") [.ref l] [(Str.ofString "key", .ref f)]) (L2.EP X pins σ Q) X.xe s := by
  obtain ⟨its, rv, pl, hz⟩ := I.list hs
  have hL : its.length ≤ sizeLine := by rw [← rv.length]; exact hz
  have hnl := rv.length
  refine sorted_of_sort pl.isList hL (ksk_s1 _ _) (fun _ => ksk_l1 _ _) fun E' => ?_
  rw [ksk_t1]
  generalize hsc : (({ s with heap := copyHeap s.heap its } : Shared)) = sc
  have hca : sc.heap.get? (s.heap.objs.size + 1) = some (seqObj "list" its.toArray 0) := by rw [← hsc]; exact copyHeap_at s.heap its
  have hold : ∀ b o, s.heap.get? b = some o → sc.heap.get? b = some o := fun b o e => by rw [← hsc]; exact copyHeap_old e
  have Ic : L2.Inv X pins σ H sc := by rw [← hsc]; exact I.kept (t' := s.toks) fun b o e => copyHeap_old e
  have scsz : s.heap.objs.size + 1 < sc.heap.objs.size := Heap.lt_size hca
  generalize hra : s.heap.objs.size + 1 = a at hca scsz
  have loa : s.heap.objs.size ≤ a := by omega
  have na : H a = none := I.hok.fresh loa
  obtain ⟨e1, ho1⟩ : ∃ e1, (sc.heap.update a (Obj.mapSeq fun _ => (#[] : Array Value))).get? a = some (seqObj "list" #[] e1) := ⟨_, get?_update_seq hca fun _ => #[]⟩
  unfold ksk_tree
  refine wpAny_bind (listItems_at hca rfl ?_)
  refine wpAny_bind (listUpdate_at hca rfl ?_ (by rw [List.size_toArray]; exact hL) (Nat.zero_le _))
  refine wpAny_bind (seqEpoch_at ho1 rfl ?_)
  refine wpAny_bind (wpAny_newTuple ?_ (by show its.length ≤ _; exact hL))
  refine wpAny_bind (wpAny_newList ?_ (Nat.zero_le _))
  refine wpAny_holding ?_
  generalize hkS : ((sc.heap.update a (Obj.mapSeq fun _ => (#[] : Array Value))).push (seqObj "tuple" its.toArray 0)).objs.size = kS
  have kSz : kS = sc.heap.objs.size + 1 := by rw [← hkS, size_push', Heap.size_update]
  have lok : s.heap.objs.size ≤ kS := by omega
  have nk : H kS = none := I.hok.fresh lok
  have hka : kS ≠ a := by omega
  have I0 : L2.Inv X pins σ H { sc with heap := sortingHeap sc.heap a its } := fpok_turn (s := s) (t' := sc.toks) Ic loa I na fun b o hb e => sortingHeap_old hb e
  have hks0 : (sortingHeap sc.heap a its).get? kS = some (seqObj "list" #[] 0) := by
    unfold sortingHeap
    rw [← hkS]; exact Heap.get?_push_size _ rfl
  have ha0 : (sortingHeap sc.heap a its).get? a = some (seqObj "list" #[] e1) := by
    unfold sortingHeap
    exact Heap.get?_push_of_some _ (Heap.get?_push_of_some _ ho1)
  show wpAny (model X.prog X.w) X.A.in1.in1 (ksk_rest a (.ref f) false its.toArray e1 (.ref kS)) _ E' { sc with heap := sortingHeap sc.heap a its }
  revert I0 hks0 ha0
  generalize hss : (({ sc with heap := sortingHeap sc.heap a its } : Shared)) = ss
  have hsh : ss.heap = sortingHeap sc.heap a its := by rw [← hss]
  rw [← hsh]
  intro I0 hks0 ha0
  have rB : L2.Room k X.A.in1.in1 := L2.Room.in1 (L2.Room.in1 hr)
  unfold ksk_rest
  refine wpAny_bind (wpAny_rule ?_)
  first
    | rw [List.forIn_toArray]
    | (rw [← Array.forIn_toList]; simp only [List.toList_toArray])
    | rw [← Array.forIn_toList]
  refine wpAny_bind (ksk_fold (KeyI X pins σ H a kS e1 kz Pv s.heap.objs.size) its 0 ss ⟨H, #[], 0, [], I0, L2.Same.refl _, na, nk, hks0, ha0, .nil, by rw [List.take_zero]; exact .nil, h0⟩ ?_ ?_)
  · rintro j x s' hx ⟨H1, kA, e, ks, I1, sm, na1, nk1, q1, q2, rk, dk, pv⟩
    simp only [Nat.zero_add] at dk pv ⊢
    have hj : j < its.length := (List.getElem?_eq_some_iff.mp hx).1
    obtain ⟨v, hv⟩ : ∃ v, xs[j]? = some v := ⟨_, List.getElem?_eq_getElem (by omega)⟩
    obtain ⟨d, hd⟩ : ∃ d, kz[j]? = some d := ⟨_, List.getElem?_eq_getElem (by omega)⟩
    have rx : L2.RelV v x := by
      obtain ⟨u, hu, ru⟩ := rv.get hv
      rw [hx] at hu; cases hu; exact ru
    have klen : kA.toList.length ≤ its.length := by
      have e3 := rk.length
      have e4 := dk.len
      rw [List.length_take] at e4
      omega
    refine wpAny_bind (wpAny_attempt (wpAny_call (codeAny_mono (c.run X.A.in1.in1 X.stack s' H1 [x] [v] _ _ rB I1.env0.in1.in1 rfl (.cons rx .nil) (turn j v d H1 sm pv hv hd)) fun r s2 hq => ?_)))
    cases r with
    | error e => exact (cx_no hq).elim
    | ok fl =>
      cases fl with
      | next => exact hq.elim
      | brk => exact hq.elim
      | cont => exact hq.elim
      | ret u =>
        obtain ⟨y, H2, os, bare, un, hok, ry, sm2, dy, pv2⟩ := hq
        have I2 : L2.Inv X pins σ H2 s2 := I1.call' (ch := []) os un hok bare (fun b z => absurd z (by simp))
        have nfr : ∀ b : Addr, s.heap.objs.size ≤ b → b ∉ L2.frs X.stack := fun b hb z => by
          rcases List.mem_cons.mp (I.stkSub b z) with q | q
          · exact absurd (Nat.lt_of_lt_of_le I.lt hb) (by rw [q]; exact Nat.lt_irrefl _)
          · exact I.nofs hb q
        have w1 : s2.heap.get? kS = some (seqObj "list" kA e) := un.keep kS _ q1 nk1 (nfr _ lok) (by simp)
        have w2 : s2.heap.get? a = some (seqObj "list" #[] e1) := un.keep a _ q2 na1 (nfr _ loa) (by simp)
        have n1 : H2 kS = none := un.free kS _ q1 nk1 (by simp)
        have n2 : H2 a = none := un.free a _ q2 na1 (by simp)
        have s1 := Heap.SameBut.update s2.heap kS (Obj.mapSeq (·.push u))
        obtain ⟨c2, hc2⟩ : ∃ c2, (s2.heap.update kS (Obj.mapSeq (·.push u))).get? kS = some (seqObj "list" (kA.push u) c2) := ⟨_, get?_update_seq w1 (·.push u)⟩
        have ek : kz.take (j + 1) = kz.take j ++ [d] := by rw [List.take_add_one, hd]; rfl
        have ea : (kA.push u).toList = kA.toList ++ [u] := by simp
        have hkl : kA.size ≤ its.length := by rw [← Array.length_toList]; exact klen
        refine wpAny_bind (listUpdate_at w1 rfl ?_ (Nat.le_trans hkl hL) (Nat.le_trans (Nat.le_of_eq (Array.size_push ..)) (Nat.succ_le_succ (Nat.le_trans hkl hL))))
        have I3 : L2.Inv X pins σ H2 { s2 with heap := s2.heap.update kS (Obj.mapSeq (·.push u)) } := fpok_turn (s := s) (t' := s2.toks) I2 lok I n1 fun b o hb e => (s1.2 b hb).trans e
        refine wpAny_pure ⟨rfl, H2, kA.push u, c2, ks ++ [y], I3, sm.trans sm2, n2, n1, hc2, (s1.2 a hka.symm).trans w2, by rw [ea]; exact rk.append (.cons ry .nil), by rw [ek]; exact (dk.up sm2).snoc dy, pv2⟩
  · rintro s' ⟨H1, kA, e, ks, I1, sm, na1, nk1, q1, q2, rk, dk, pv⟩
    simp only [Nat.zero_add] at dk pv
    rw [List.take_of_length_le (by omega)] at dk
    have hndl : noDictL kz = true := noDictL_of fun d hd => (hdp d hd).2
    have rd : EachIs (fun v d => ∃ as, Reads s'.heap v d as) kA.toList kz := by
      have e4 := dpAll_each I1 (DqAll.dp (K := X.K) _ _ dk hndl) rk
      have e5 := each_map (R := fun v d => ∃ as, Reads s'.heap v d as) (fun b : L2.V × PyData => b.2) (e4.mono fun u b ⟨r1, r2⟩ => Dp.reads I1 b.2 b.1 u r2 r1)
      rw [zip_snd dk.len] at e5
      exact e5
    have hsz : kA.size = its.length := by
      have e6 := rd.length
      rw [Array.length_toList] at e6
      omega
    refine wpAny_bind (listItems_at q1 rfl ?_)
    obtain ⟨h1, g1, g2⟩ := L2.restrict s'.heap fun b => decide (b ≠ a) && decide (b ≠ kS)
    have gk : ∀ b o, h1.get? b = some o → b ≠ a ∧ b ≠ kS ∧ s'.heap.get? b = some o := fun b o hb => by
      by_cases hp : (decide (b ≠ a) && decide (b ≠ kS)) = true
      · have e7 := g1 b hp
        rw [Bool.and_eq_true, decide_eq_true_eq, decide_eq_true_eq] at hp
        exact ⟨hp.1, hp.2, e7 ▸ hb⟩
      · rw [g2 b (by simpa using hp)] at hb; cases hb
    refine keyH_end (κ := dataKind s'.heap kz) (h₁ := h1) (b := false) (fun b o _ hb => (gk b o hb).2.2) (g2 kS (by simp)) q1 q2 hka (SortsAt.data rd hal hsk fun d hd => ?_) hsz hL fun h3 tk3 c3 k3 n3 => ⟨rfl, ?_⟩
    · have := (hdp d hd).1
      have := hr.un
      show X.A.units + 1 + 1 + d.depth < cLine
      omega
    · have ebs : (xs.zip kz).map (·.2) = kz := zip_snd (by omega)
      have eR : EachIs (fun u (b : L2.V × PyData) => L2.RelV b.1 u) its (xs.zip kz) := vals_zip rv (by omega)
      have ko : KeyedOut false ((xs.zip kz).map (·.2)) its (sortVals (dataKind s'.heap kz) false kA.toList its) := ⟨s'.heap, kA.toList, by rw [ebs]; exact hal, by rw [ebs], by rw [ebs]; exact rd⟩
      have eo := keyedOut_each (β := L2.V × PyData) (·.2) ko eR
      generalize sortVals (dataKind s'.heap kz) false kA.toList its = out at n3 eo
      have hv := each_vals (fun u (b : L2.V × PyData) (h : L2.RelV b.1 u) => h) eo
      have nfs : ∀ b, b ≠ a → b ≠ kS → ∀ o, s'.heap.get? b = some o → h3.get? b = some o := fun b x1 x2 o e => k3 b o x1 ((g1 b (by simp [x1, x2])).trans e)
      have trk : ∀ b u, H1 b = some u → b ≠ a ∧ b ≠ kS := fun b u e => ⟨L2.ne_of_none e na1, L2.ne_of_none e nk1⟩
      have hlen : ((xs.zip kz).mergeSort (dataLe false (fun b : L2.V × PyData => b.2))).length ≤ sizeLine := by rw [(List.mergeSort_perm _ _).length_eq, List.length_zip]; omega
      have I4 : L2.Inv X pins σ (L2.upd H1 a (.lst (((xs.zip kz).mergeSort (dataLe false (fun b : L2.V × PyData => b.2))).map (·.1)))) { s' with heap := h3, toks := tk3 } := by
        refine I1.call' (ch := [a, kS]) rfl ⟨fun b o e n x1 x2 => ?_, fun b o e n x1 x2 => ?_, fun b o e n x2 => ?_, fun b o e x2 => ?_, fun b ys e => ?_, fun b o u e => ?_, fun b ps e => ⟨#[], ?_⟩⟩ (fun b u e => ?_) I1.bare fun b hb => ?_
        · exact nfs b (fun z => x2 (by simp [z])) (fun z => x2 (by simp [z])) o e
        · exact ⟨o.slots, nfs b (fun z => x2 (by simp [z])) (fun z => x2 (by simp [z])) o e⟩
        · rw [L2.upd_ne (fun z => x2 (by simp [z]))]; exact n
        · exact ⟨o, nfs b (fun z => x2 (by simp [z])) (fun z => x2 (by simp [z])) o e⟩
        · rw [L2.upd_ne (trk b _ e).1]; exact e
        · rw [L2.upd_ne (trk b _ e).1]; exact e
        · rw [L2.upd_ne (trk b _ e).1, Array.append_empty]; exact e
        · by_cases hb : b = a
          · subst hb
            rw [L2.upd_same] at e
            cases e
            exact ⟨by rw [List.length_map]; exact hlen, out, c3, hv, n3⟩
          · rw [L2.upd_ne hb] at e
            refine (I1.hok b u e).stay (fun d v hd q => ?_) (fun d q => by rw [L2.upd_ne (trk d _ q).1]; exact q) fun d ys q => by rw [L2.upd_ne (trk d _ q).1]; exact q
            rcases hd with rfl | hd
            · exact nfs d (trk d _ e).1 (trk d _ e).2 v q
            · exact nfs d (trk d _ hd).1 (trk d _ hd).2 v q
        · have hb : b = a ∨ b = kS := by simpa using hb
          have lob : s.heap.objs.size ≤ b := hb.elim (fun z => z ▸ loa) fun z => z ▸ lok
          obtain ⟨_, f1, _, f3, f4, f5⟩ := I.fpOk lob (I.hok.fresh lob)
          exact ⟨f3, f1, f4, f5⟩
      exact ⟨.ref a, _, I4, rfl, h H1 a sm (by rw [← hnl] at pv; exact pv) na1⟩
end PD
namespace PD
open PySem PySem.Spec PyProof.Rows L2 NdefX LamX
/-- sorted(e, key=g) -/
def tSortK (P : Program) (w : World) (K : PySem.W.Frag) (mg : Str → Option Value) (base : Heap) (k : Nat) (te tl : TE) : TE := fun σ H Q => tCons te tNil σ H fun vs H1 => ∃ l xs, vs = [.ref l] ∧ SqL K H1 l xs ∧ tl σ H1 fun y H2 => ∃ (f : Addr) (sp : Sp) (kz : List PyData) (Pv : Nat → Hp → Prop),
  y = .ref f ∧ SqL K H2 l xs ∧ Cal P w K mg base k f 1 sp ∧ Pv 0 H2 ∧ kz.length = xs.length ∧ PySem.W.AllAlike kz ∧ PySem.W.Sortable kz ∧ (∀ d, d ∈ kz → d.depth ≤ 60 ∧ noDict d = true) ∧
  (∀ i v d H3, Same H2 H3 → Pv i H3 → xs[i]? = some v → kz[i]? = some d → sp [v] H3 (fun u H4 => Same H3 H4 ∧ Dq H4 u d ∧ Pv (i + 1) H4) (fun _ _ _ => False)) ∧
  ∀ H3 p, Same H2 H3 → Pv xs.length H3 → H3 p = none → Q (.ref p) (upd H3 p (.lst (((xs.zip kz).mergeSort fun b c => leD b.2 c.2).map (·.1))))
section
variable {X : Cx} {e le : Expr} {te tl : TE} {p pos kp : Pos} {K : PySem.W.Frag} {k : Nat}
theorem xe_sortedK (m : X.mg "sorted" = none) (hr : Room (k + 2) X.A) (ha : PE X e te) (hl : PE X le tl) (hg : Gl X "sorted" := by rfl) (hs : starEach [e] X.env = (false, eval e X.env) :: starEach [] X.env := by rfl)
    (he : backTo pos (starEach [e] X.env) = (false, eval e X.env) :: backTo pos (starEach [] X.env) := by rfl) (hpl : (backTo pos (starEach [e] X.env)).any (·.1) = false := by rfl) :
    PE X (.Call (.Name "sorted" p) [e] [⟨some "key", le, kp⟩] pos) (tSortK X.prog X.w X.K X.mg X.base k te tl) := by
  refine ⟨fun pins s σ H Q I h => ?_⟩
  refine wpAny_Call_Name_kw (ld_blt I hg m (u := .builtin "sorted") (by decide +kernel) (PyProof.Rows.callWith_kw (thn ((pa_cons ha pa_nil hs).run pos pins s σ H _ I h) fun us s1 ⟨vs, H1, I1, r1, l, xs, ev, hsq, q⟩ => ?_) he hpl rfl rfl))
  subst ev
  obtain rfl := Vals.ref1 r1
  show wpAny _ _ (evalAll [do let v ← eval le X.env; standAt pos; pure v]) _ _ s1
  refine wpAny_evalAll_cons (wpAny_bind (thn (hl.run pins s1 σ H1 _ I1 q) fun u s2 ⟨y, H2, I2, ry, f, sp, kz, Pv, ey, sq2, c, p0, z1, z2, z3, z4, z5, z6⟩ => wpAny_bind (wpAny_standAt (wpAny_pure (wpAny_evalAll_nil ?_)))))
  subst ey
  obtain rfl : u = Value.ref f := ry
  exact sortK_run c hr I2 sq2 p0 z1 z2 z3 z4 z5 z6
end
end PD
set_option Elab.async false
set_option linter.all false
set_option maxRecDepth 100000
set_option maxHeartbeats 4000000
/-! PdMk: defs that make functions: their code object is known; the law's world behind a lambda's making -/
namespace PD
open PySem PySem.Spec PyProof.Rows L2 NdefX LamX
/-- a def of the top whose code object stands at c -/
structure DfC (K : PySem.W.Frag) (mg : Str → Option Value) (x : Str) (st : Stmt) (c : Addr) : Prop where
  ex : ∃ (f : Addr) (fd : FuncData), mg x = some (.ref f) ∧ Fun K x x st f fd ∧ fd.code = .ref c
section
variable {P : Program} {w : World} {K : PySem.W.Frag} {mg : Str → Option Value} {base : Heap} {x : Str} {k n : Nat} {sp : Sp} {st : Stmt} {c : Addr}
theorem DfC.fn {N ps : List Str} (D : DfC K mg x st c) (S : FnScope N ps (defScope st)) (len : ∀ vs H Q E, sp vs H Q E → vs.length = ps.length) (hn : ps.length = n)
    (hb : ∀ (kV doc pm : Value) (an : Option Addr) (cdv ct : Value) (us : List Value), us.length = ps.length → bindArgs (PySem.W.fnOf x x (defArgs st) (defBody st) (defScope st) .none kV doc pm an cdv ct) ⟨us, []⟩ = pure (ps.zip us))
    (hbody : ∀ (f : Addr) (A : Around) (outer : List Env) (s : Shared) (H : Hp) (vs : List V) (Q : VK) (E : XK), Room k (A.deeper (envOfC x (defScope st) s.heap.objs.size f (.ref c))) → sp vs H Q E →
      ∃ t, PSs (cxOf CX0 P w K mg base N x (defScope st) f (.ref c) A outer s H E).nox (defBody st) t ∧ t { nx := fun _ H' => Q .non H', rt := Q } (start N vs) H) : Fn P w K mg base CX0 x (k + 1) n sp := by
  obtain ⟨f, fd, h1, h2, h3⟩ := D.ex
  refine ⟨f, fd, ps, h1, h2.kp, hn, h2.binds hb, ?_⟩
  obtain ⟨oc, od, kV, doc, pm, an, cdv, ct, osl, rfl, lk, hcd⟩ := h2.ex
  obtain rfl : cdv = .ref c := h3
  refine fn_of lk hcd S len fun A outer s H vs Q E hr hsp => ?_
  obtain ⟨t, ht, q⟩ := hbody f A outer s H vs Q E hr hsp
  exact ⟨t, ht.nox, q⟩
theorem DfC.df (D : DfC K mg x st c) : Df K mg x st := let ⟨f, fd, h1, h2, _⟩ := D.ex; ⟨f, fd, h1, h2⟩
/-- the maker's table is one of the world's -/
structure MkT (t : Tb) (base : Heap) (mg : Str → Option Value) (c T : Addr) (qs : List Str) : Prop where
  tb : TabB base mg c T
  mem : (T, qs) ∈ t.T
  one : ∀ p ∈ t.T, p.1 = T → p.2 = qs
  off : ∀ p ∈ t.TN, p.1 ≠ T
end
section
variable {X : Cx} {W : Wl} {T c f c' : Addr} {q : Str} {qs : List Str} {scope : Scope} {prm : Arguments} {b : Expr} {H H1 G : Hp} {n : Nat}
theorem MkT.z {t : Tb} {base : Heap} {mg : Str → Option Value} (m : MkT t base mg c T qs) : T ∈ t.Z := List.mem_append_left _ (List.mem_map.mpr ⟨_, m.mem, rfl⟩)
theorem MkT.made {base : Heap} {mg : Str → Option Value} (m : MkT W.t base mg c T ((X.env.qual ++ "<lambda>") :: qs)) (M : LamMade X W.t.Z T qs scope prm b H f c' H1) (w : WOk W n H) : WOk W n H1 := by
  obtain ⟨p0, e0⟩ := M.was
  have nt : ∀ a o, H a = some o → (∀ ps, o ≠ .tbl ps) → H1 a = some o := fun a o e z => M.stay a o (fun y => z p0 (Option.some.inj (((y ▸ e : H T = some o)).symm.trans e0))) e
  obtain ⟨ne, ⟨cells, pend, acc, cnt, k1, k2, r⟩, tb, tn⟩ := w
  refine ⟨ne, ⟨cells, pend, acc, cnt, nt _ _ k1 (fun _ z => nomatch z), nt _ _ k2 (fun _ z => nomatch z), r⟩, fun p hp => ?_, fun p hp => ?_⟩
  · by_cases e : p.1 = T
    · rw [m.one p hp e, e]
      exact ⟨M.tab.at_, M.tab⟩
    · obtain ⟨⟨ps, x⟩, y⟩ := tb p hp
      exact ⟨⟨ps, M.stay _ _ e x⟩, TabX.but m.z M.stay ⟨p0, e0⟩ _ _ e y⟩
  · obtain ⟨ps, h1, h2, h3⟩ := tn p hp
    refine ⟨ps, M.stay _ _ (m.off p hp) h1, h2, fun pos cv hc => ?_⟩
    obtain ⟨c2, e1, e2⟩ := h3 pos cv hc
    exact ⟨c2, e1, nt _ _ e2 codeO_ne⟩
theorem MkT.ext {base : Heap} {mg : Str → Option Value} (m : MkT W.t base mg c T ((X.env.qual ++ "<lambda>") :: qs)) (M : LamMade X W.t.Z T qs scope prm b H f c' H1) (hs : Same G H) (cl : Cl W G) : ExtW W G H G H1 := by
  obtain ⟨p0, e0⟩ := M.was
  have nt : ∀ a o, H a = some o → (∀ ps, o ≠ .tbl ps) → H1 a = some o := fun a o e z => M.stay a o (fun y => z p0 (Option.some.inj (((y ▸ e : H T = some o)).symm.trans e0))) e
  exact ⟨fun a o e k => nt a o e k.2.2, M.dom, Same.refl _, fun a o e => nt a o (hs _ _ e) (cl a o e).2.2, fun _ h => .inl h, cl⟩
theorem WOk.zs (w : WOk W n H) : ∀ z ∈ W.t.Z, H z ≠ none := fun z hz => by
  rcases List.mem_append.mp hz with hz | hz
  · obtain ⟨p, hp, rfl⟩ := List.mem_map.mp hz
    obtain ⟨⟨ps, x⟩, _⟩ := w.tab p hp
    rw [x]; simp
  · obtain ⟨p, hp, rfl⟩ := List.mem_map.mp hz
    obtain ⟨ps, x, _⟩ := w.tn p hp
    rw [x]; simp
/-- x = lambda .., the maker's table in the world -/
theorem lamb_use {base : Heap} {mg : Str → Option Value} {σ : L2.St} {Q : VK} (m : MkT W.t base mg c T ((X.env.qual ++ "<lambda>") :: qs)) (w : WOk W n H) (hs : Same G H) (cl : Cl W G)
    (k : ∀ f c' H1, LamMade X W.t.Z T qs scope prm b H f c' H1 → ExtW W G H G H1 → WOk W n H1 → Q (.ref f) H1) : tLamb X (fun _ => True) W.t.Z T qs scope prm b σ H Q :=
  ⟨trivial, w.zs, (w.tab _ m.mem).2, .inl m.z, fun f c' H1 M => k f c' H1 M (m.ext M hs cl) (m.made M w)⟩
theorem pe_lambB {Z : List Addr} {qs : List Str} {pos : Pos} (B : TabB X.base X.mg c T) (hcode : X.env.code = .ref c) (hfree : ∀ y ∈ scope.names, y.2 = .free → X.env.scope.names.lookup y.1 = some .cell ∨ X.env.scope.names.lookup y.1 = some .free) (hdef : defaultsOf prm X.env = ([], [])) :
    PE X (.Lambda prm b scope pos) (tLamb X (fun _ => True) Z T qs scope prm b) := pe_lamb (fun _ _ _ _ I _ => mkB_base I B) hcode hfree hdef
theorem GrW.tmp {G0 H0 : Hp} {ps : List Addr} {p : Addr} {xs : List V} (g : GrW W G0 H0 ps G H) (hp : p ∈ ps) (h : H p = some (.lst xs)) : Same (upd G p (.lst xs)) H ∧ Same G (upd G p (.lst xs)) := by
  obtain ⟨a1, a2, _⟩ := g.own p hp
  refine ⟨fun b o e => ?_, same_new a1⟩
  by_cases z : b = p
  · subst z; rw [upd_same] at e; rw [h]; exact e
  · rw [upd_ne z] at e; exact g.x.gh _ _ e
theorem put_appendW {G0 H0 : Hp} {ps : List Addr} {p : Addr} {acc : List V} {K : PySem.W.Frag} {i m0 : Nat} {te : TE} {D : Ends} {σ : L2.St} {d : PyData} (g : GrW W G0 H0 ps G H) (w0 : WOk W m0 H0) (wh : WOk W n H) (hp : p ∈ ps) (hσ : σ[i]? = some (some (.ref p))) (hx : H p = some (.lst acc)) (h : PR te σ G d) (z : acc.length < sizeLine)
    (k : ∀ v G1 H1, GrW W G0 H0 ps G1 H1 → WOk W n H1 → Same G G1 → Dq G1 v d → H1 p = some (.lst (acc ++ [v])) → (∀ q o, q ≠ p → H q = some o → H1 q = some o) → D.nx σ H1) : tDrop (tBM K "list" rAppend (tVar i) (tCons te tNil)) D σ H := by
  refine ⟨_, hσ, .inl ⟨rfl, _, SqL.of hx⟩, h H _ g.x.gh fun v G1 H1 e1 dv => ?_⟩
  obtain ⟨g1, w1⟩ := g.pure w0 wh e1
  exact ⟨p, acc, v, rfl, rfl, e1.hh _ _ hx, z, k v _ _ (g1.put hp) (g1.wput w0 w1 hp) joinG_same (joinG_dq e1.gg dv) upd_same fun q o hq e => by rw [upd_ne hq]; exact e1.hh _ _ e⟩
/-- no captured names -/
theorem cap_nil {H : Hp} : Cap [] [] [] H := ⟨rfl, fun c hc => by simp [adr] at hc, fun x y c h => by simp at h, fun i y h => by simp at h⟩
theorem rm_nil {H : Hp} : rm [] H = H := funext fun a => rm_off (by simp)
theorem ovr_nil {T H : Hp} : ovr [] T H = H := funext fun a => ovr_off (by simp)
end
end PD
set_option Elab.async false
set_option linter.all false
set_option maxRecDepth 100000
set_option maxHeartbeats 4000000
/-! K48i: _law_lots (sorted by a lambda), _law_meeting -/
namespace K48
open PySem PySem.Spec PyProof.Rows L2 PD StX RZ NdefX LamX
abbrev sLotsL : Stmt := top 27
abbrev sMeetingL : Stmt := top 32
abbrev lamQ (x : Str) : Str := x ++ ".<locals>." ++ "<lambda>"
/-- all that can be taken of the things, in the order of the making -/
def powStep (F : List (List PyData)) (x : PyData) : List (List PyData) := F ++ F.map fun l => l ++ [x]
def powD (ts : List PyData) : List (List PyData) := ts.foldl powStep [[]]
def keyL (l : List PyData) : PyData := .tuple [.int (l.length : Nat), .list l]
def lotsD (ts : List PyData) : List (List PyData) := (powD ts).mergeSort fun a b => leD (keyL a) (keyL b)
theorem pow_len : ∀ (ts : List PyData) (F : List (List PyData)), (ts.foldl powStep F).length = F.length * 2 ^ ts.length
  | [], F => by simp
  | x :: ts, F => by
    rw [List.foldl_cons, pow_len ts]
    unfold powStep
    rw [List.length_append, List.length_map, List.length_cons, Nat.pow_succ]
    rw [← Nat.mul_two, Nat.mul_assoc, Nat.mul_comm 2]
theorem pow_mem : ∀ (ts : List PyData) (F : List (List PyData)) (m : Nat), (∀ l ∈ F, l.length ≤ m) → ∀ l ∈ ts.foldl powStep F, l.length ≤ m + ts.length ∧ ∀ x ∈ l, x ∈ ts ∨ ∃ l' ∈ F, x ∈ l'
  | [], F, m, h, l, hl => ⟨by have := h l hl; simpa using this, fun x hx => .inr ⟨l, hl, hx⟩⟩
  | t :: ts, F, m, h, l, hl => by
    rw [List.foldl_cons] at hl
    obtain ⟨q1, q2⟩ := pow_mem ts (powStep F t) (m + 1) (fun l' hl' => by
      unfold powStep at hl'
      rcases List.mem_append.mp hl' with y | y
      · have := h l' y; omega
      · obtain ⟨l2, y1, rfl⟩ := List.mem_map.mp y
        have := h l2 y1
        simp; omega) l hl
    refine ⟨by rw [List.length_cons]; omega, fun x hx => ?_⟩
    rcases q2 x hx with y | ⟨l', y1, y2⟩
    · exact .inl (List.mem_cons_of_mem _ y)
    · unfold powStep at y1
      rcases List.mem_append.mp y1 with z | z
      · exact .inr ⟨l', z, y2⟩
      · obtain ⟨l2, z1, rfl⟩ := List.mem_map.mp z
        rcases List.mem_append.mp y2 with u | u
        · exact .inr ⟨l2, z1, u⟩
        · simp at u; subst u; exact .inl (List.mem_cons_self ..)
section
variable {P : Program} {w : World} {K : PySem.W.Frag} {mg : Str → Option Value} {base : Heap} {t : Tb} {W : Wl} {n m : Nat} {G H H0 : Hp} {c T : Addr}
abbrev nLotsL : List Str := ["_law_things_here", "_law_found", "_law_thing", "_law_lot"]
theorem scLotsL : FnScope nLotsL ["_law_things_here"] (defScope sLotsL) := ⟨rfl, rfl, rfl, by decide +kernel, rfl, by decide +kernel, by decide +kernel⟩
def prLotsL (ds : List PyData) : Prop := ∃ ts, ds = [.list ts] ∧ Kin ts ∧ ts.length ≤ 8
def DLotsL (ds : List PyData) (d : PyData) : Prop := ∃ ts, ds = [.list ts] ∧ d = .list ((lotsD ts).map .list)
def kwVal : Expr → Expr
  | .Call _ _ (⟨_, e, _⟩ :: _) _ => e
  | _ => noExpr
abbrev eKey : Expr := kwVal (valOf (stAt (defBody sLotsL) 2))
def lamArgs : Expr → Arguments
  | .Lambda a _ _ _ => a
  | _ => ⟨[], [], none, [], [], none, []⟩
def lamBody : Expr → Expr
  | .Lambda _ b _ _ => b
  | _ => noExpr
theorem scKey : NScope ["_law_lot"] ["_law_lot"] [] (compSc eKey) := nscope_by (by decide +kernel)
/-- the key's promise: the length and the list itself -/
def spKey : Sp := fun vs H Q _ => ∃ l ys, vs = [.ref l] ∧ H l = some (.lst ys) ∧ ∀ p, H p = none → Q (.ref p) (upd H p (.tup [.int (ys.length : Nat), .ref l]))
theorem key_cal {f : Addr} {F : NF} (hF : F.scope = compSc eKey) (hcl : F.cl = []) (m1 : mg "len" = none) : Cal P w K mg base 1 f 1 (spL f F (lamArgs eKey) (lamBody eKey) [] fun _ => spKey) := by
  refine lam_cal (k := 0) (N := ["_law_lot"]) (ps := ["_law_lot"]) (by rw [hF]; exact scKey) (fun pm ctv us hl => match us, hl with | [_], _ => rfl) fun A outer s H vs ws Q E hr hw hv hsp => ?_
  obtain ⟨l, ys, rfl, hl, k⟩ := hsp
  have hws : ws = [] := List.length_eq_zero_iff.mp hw
  subst hws
  refine ⟨tTup (tCons (tCB (rLenQ K) (tCons (tVar 0) tNil)) (tCons (tVar 0) tNil)), pe_tup (pa_cons (xe_len (K := K) m1 (pe_var (i := 0) (x := "_law_lot") rfl (.inl (by show F.scope.names.lookup _ = _; rw [hF]; rfl))) (hg := by show F.scope.names.lookup _ = _; rw [hF]; rfl)) (pa_cons (pe_var (i := 0) (x := "_law_lot") rfl (.inl (by show F.scope.names.lookup _ = _; rw [hF]; rfl))) pa_nil)), ?_⟩
  exact ⟨_, rfl, l, ys, rfl, .inl (SqL.of hl), _, rfl, by show 2 ≤ sizeLine; rw [sizeLine_eq]; omega, fun p hp => k p hp⟩
theorem kin_key {A : List PyData} {F : List (List PyData)} (h : KinL A F) : PySem.W.AllAlike (F.map keyL) ∧ PySem.W.Sortable (F.map keyL) ∧ ∀ d, d ∈ F.map keyL → d.depth ≤ 60 ∧ noDict d = true := by
  refine ⟨fun a ha b hb => ?_, .inl fun d hd => ?_, fun d hd => ?_⟩
  · obtain ⟨l, hl, rfl⟩ := List.mem_map.mp ha
    obtain ⟨l', hl', rfl⟩ := List.mem_map.mp hb
    have e : PySem.W.alike (.list l) (.list l') = true := by
      rw [PySem.W.alike]
      exact alikeAll_of fun x hx y hy => h.1.1 x (h.2 l hl x hx) y (h.2 l' hl' y hy)
    simp only [keyL, PySem.W.alike, PySem.W.alikeAll] at e ⊢
    rw [e]; rfl
  · obtain ⟨l, hl, rfl⟩ := List.mem_map.mp hd
    exact ⟨_, _, rfl⟩
  · obtain ⟨l, hl, rfl⟩ := List.mem_map.mp hd
    have sh : ShL 4 [.int (l.length : Nat), .list l] := fun d hd => by
      rcases List.mem_cons.mp hd with rfl | hd
      · exact ⟨rfl, by simp [PyData.depth]⟩
      · simp at hd
        subst hd
        exact ShL.list (n := 3) fun d hd => h.1.shL d (h.2 l hl d hd)
    exact ⟨Nat.le_trans sh.tuple.2 (by decide), sh.tuple.noDict⟩
theorem fn_lotsL (D : DfC K mg "_law_lots" sLotsL c) (M : MkT t base mg c T [lamQ "_law_lots"]) (m1 : mg "len" = none) (m2 : mg "sorted" = none) : Fn P w K mg base CX0 "_law_lots" 5 1 (spW t (fun _ => 0) prLotsL DLotsL) := by
  refine D.fn scLotsL (by rintro vs H Q E ⟨W, G, ds, n, ht, hG, hcl, hw, hl, hd, ⟨ts, rfl, _⟩, k⟩; have := hd.len; simpa using this) rfl (fun _ _ _ _ _ _ us hl => match us, hl with | [_], _ => rfl) fun f A outer s H vs Q E hr hsp => ?_
  obtain ⟨W, G, ds, n, rfl, hG, hcl, hw, hl, hd, ⟨ts, rfl, hk, hlen⟩, kq⟩ := hsp
  obtain ⟨u, rfl, du⟩ := hd.one
  have hsz : sizeLine = 16777216 := sizeLine_eq
  refine ⟨_, pss_cons (ps_set (i := 1) scLotsL.nd rfl (.inl rfl) (pe_lst (pa_cons (pe_lst pa_nil) pa_nil)))
    (pss_cons (ps_for PassesOwn.never rfl (pi_list (pv 0)) (pg_name (i := 2) scLotsL.nd rfl (.inr rfl))
      (pss_one (ps_set (i := 1) scLotsL.nd rfl (.inl rfl) (pe_op op_cat (pv 1) (xe_lc1 (tt := tYes) nLotsL (defScope sLotsL) 3 (pi_list (pv 1)) (by decide +kernel) scLotsL.nd (.inr rfl) (fun _ _ _ _ _ => pts_nil)
        (fun _ _ _ _ _ => pe_op op_cat (pv 3) (pe_lst (pa_cons (pv 2) pa_nil))))))))
    (pss_one (ps_ret (xe_sortedK (k := 1) m2 (hr.mono (by decide)) (pv 1) (pe_lambB (Z := W.t.Z) (T := T) (qs := []) M.tb rfl (ndef_free (sc := defScope sLotsL) (nsc := compSc eKey) (fr := []) (by decide +kernel)) rfl))))), ?_⟩
  have hlim : n + 0 ≤ lim := hl
  refine tSetN_use hG hcl hw (c := 0) hlim (PN_of (d := .list ([[]].map .list)) (PR_lst (PRA_one (PR_lst PRA_nil (by show 0 ≤ sizeLine; omega))) (by show 1 ≤ sizeLine; omega))) fun d1 v1 G1 H1 hd1 x1 hw1 dv1 => ?_
  subst hd1
  refine tForN_use x1.gh x1.cl hw1 (c := 0) hlim (DL := (· = ts)) (WN_list (PN_of (PV (du.up x1.gg))) fun d hd => ⟨ts, hd, rfl⟩) fun ds J G2 H2 hds x2 hw2 dw => ?_
  subst hds
  have memA : ∀ F : List (List PyData), (∀ l ∈ F, l.length ≤ ds.length ∧ ∀ x ∈ l, x ∈ ds) → KinL ds F := fun F h => ⟨hk, fun l hl => (h l hl).2⟩
  have hmem : ∀ i l, l ∈ (ds.take i).foldl powStep [[]] → l.length ≤ (ds.take i).length ∧ ∀ x ∈ l, x ∈ ds := fun i l hl => by
    obtain ⟨q1, q2⟩ := pow_mem (ds.take i) [[]] 0 (by simp) l hl
    refine ⟨by simpa using q1, fun x hx => ?_⟩
    rcases q2 x hx with y | ⟨l', y1, y2⟩
    · exact List.mem_of_mem_take y
    · simp at y1; subst y1; cases y2
  have hplen : ∀ i, ((ds.take i).foldl powStep [[]]).length ≤ 256 := fun i => by
    rw [pow_len]
    have : (ds.take i).length ≤ 8 := by rw [List.length_take]; omega
    calc [[]].length * 2 ^ (ds.take i).length = 2 ^ (ds.take i).length := by simp
      _ ≤ 2 ^ 8 := Nat.pow_le_pow_right (by decide) this
  refine for_nm dw (fun i σ H3 => ∃ (G3 : Hp) (vf : V) (x3 : Option V), σ = [some u, some vf, x3, none] ∧ ExtW W G H G3 H3 ∧ WOk W n H3 ∧ Same G2 G3 ∧ Dq G3 vf (.list (((ds.take i).foldl powStep [[]]).map .list))) ?_ ?_ ?_ ?_
  · exact ⟨G2, v1, none, rfl, x1.trans x2, hw2, Same.refl _, dv1.up x2.gg⟩
  · rintro i σ H3 _ ⟨G3, vf, x3, rfl, x, _, s3, _⟩
    exact s3.trans x.gh
  · rintro i d y σ H3 H4 q1 ⟨G3, vf, x3, rfl, x, hw3, s3, df⟩ q2 q3
    obtain ⟨G4, x4, hw4, dy⟩ := yldW x.gh x.cl hw3 s3 q3
    have df4 := df.up x4.gg
    have hfold := foldl_take powStep [[]] ds i d q1
    have hm := hmem i
    have hpl := hplen i
    have hmd : d ∈ ds := List.mem_of_getElem? q1
    generalize (ds.take i).foldl powStep [[]] = F at df4 hfold hm hpl
    have htk : (ds.take i).length ≤ 8 := by rw [List.length_take]; omega
    refine tSetN_use x4.gh x4.cl hw4 (c := 0) hlim (PN_of (d := .list ((powStep F d).map .list)) (PR.eq (PR_op (RR2_cat (es := F.map .list) (fs := F.map fun l => .list (l ++ [d])) (by simp; omega)) (PV df4) (PR_map1 (bs := F) (enc := .list) (f := fun l => .list (l ++ [d])) (WR_list (PV df4)) (fun _ => rfl)
      (fun G5 l v h5 hl dv => PR_op (RR2_cat (by have := (hm l hl).1; simp; omega)) (PV dv) (PR_lst (PRA_one (PV (dy.up h5))) (by show 1 ≤ sizeLine; omega))) (by omega))) (by unfold powStep; rw [List.map_append, List.map_map]; rfl))) fun d5 v5 G5 H5 hd5 x5 hw5 dv5 => ?_
    subst hd5
    exact ⟨G5, v5, some y, rfl, (x.trans x4).trans x5, hw5, (s3.trans x4.gg).trans x5.gg, by rw [hfold]; exact dv5⟩
  · rintro σ H3 ⟨G3, vf, x3, rfl, x, hw3, s3, df⟩
    rw [List.take_length] at df
    have hK : KinL ds (powD ds) := ⟨hk, fun l hl => by
      have := hmem ds.length l (by rw [List.take_length]; exact hl)
      exact this.2⟩
    change Dq G3 vf (.list ((powD ds).map .list)) at df
    cases df with
    | @lst la vl _ ha hall =>
      refine ⟨_, rfl, la, vl, rfl, SqL.of (x.gh _ _ ha), ?_⟩
      refine lamb_use (base := base) (mg := mg) (c := c) M hw3 x.gh x.cl fun fl c' H4 LM x4 hw4 => ?_
      obtain ⟨T', hc', _⟩ := LM.code
      obtain ⟨k1, k2, k3⟩ := kin_key hK
      have hvl := hall.len
      rw [List.length_map] at hvl
      refine ⟨fl, _, (powD ds).map keyL, fun i H5 => Same H4 H5, rfl, SqL.of (x4.gh _ _ ha), key_cal (F := lamF (cxOf CX0 P w K mg base nLotsL "_law_lots" (defScope sLotsL) f (.ref c) A outer s H E).nox (compSc eKey) c') rfl rfl m1, Same.refl _, by rw [List.length_map]; exact hvl.symm, k1, k2, k3, ?_, ?_⟩
      · intro i v d H5 s5 _ hv hd
        obtain ⟨dl, hdl, dv⟩ := hall.get hv
        rw [List.getElem?_map] at hdl
        obtain ⟨l, hl, rfl⟩ : ∃ l, (powD ds)[i]? = some l ∧ .list l = dl := by
          cases q : (powD ds)[i]? with
          | none => rw [q] at hdl; simp at hdl
          | some l => rw [q] at hdl; exact ⟨l, rfl, Option.some.inj hdl⟩
        rw [List.getElem?_map, hl] at hd
        cases hd
        have dv5 := dv.up (x4.gh.trans s5)
        cases dv5 with
        | @lst b ys _ hb hys =>
          refine ⟨[], T', s5 _ _ LM.at_, s5 _ _ hc', cap_nil, b, ys, rfl, ?_, fun p hp => ?_⟩
          · rw [show adr (lamF (cxOf CX0 P w K mg base nLotsL "_law_lots" (defScope sLotsL) f (.ref c) A outer s H E).nox (compSc eKey) c').cl = [] from rfl, rm_nil]
            exact hb
          · have hp : H5 p = none := by rw [← rm_nil (H := H5)]; exact hp
            intro _
            show Same H5 (ovr [] H5 (upd (rm [] H5) p (.tup [.int (ys.length : Nat), .ref b]))) ∧ Dq (ovr [] H5 (upd (rm [] H5) p (.tup [.int (ys.length : Nat), .ref b]))) (.ref p) (keyL l) ∧ Same H4 (ovr [] H5 (upd (rm [] H5) p (.tup [.int (ys.length : Nat), .ref b])))
            rw [ovr_nil, rm_nil]
            have s6 := same_new (o := .tup [.int (ys.length : Nat), .ref b]) hp
            refine ⟨s6, ?_, s5.trans s6⟩
            rw [hys.len]
            rw [hys.len] at s6
            exact .tup upd_same (.cons (.int _) (.cons (.lst (s6 _ _ hb) (hys.up s6)) .nil))
      · intro H5 p s5 _ hp
        have e1 : vl.zip ((powD ds).map keyL) = (vl.zip (powD ds)).map fun b => (b.1, keyL b.2) := zip_map_right' keyL _ _
        have e2 := List.map_mergeSort (r := fun (b c : V × List PyData) => leD (keyL b.2) (keyL c.2)) (s := fun (b c : V × PyData) => leD b.2 c.2) (f := fun b => (b.1, keyL b.2)) (l := vl.zip (powD ds)) (fun _ _ _ _ => rfl)
        have e3 : ((vl.zip ((powD ds).map keyL)).mergeSort fun b c => leD b.2 c.2).map (·.1) = ((vl.zip (powD ds)).mergeSort fun b c => leD (keyL b.2) (keyL c.2)).map (·.1) := by
          rw [e1, ← e2, List.map_map]; rfl
        have e4 : lotsD ds = ((vl.zip (powD ds)).mergeSort fun b c => leD (keyL b.2) (keyL c.2)).map (·.2) := by
          rw [List.map_mergeSort (r := fun (b c : V × List PyData) => leD (keyL b.2) (keyL c.2)) (s := fun b c => leD (keyL b) (keyL c)) (f := fun b => b.2) (fun _ _ _ _ => rfl), zip_snd (by omega)]
          rfl
        rw [e3]
        generalize hS : ((vl.zip (powD ds)).mergeSort fun b c => leD (keyL b.2) (keyL c.2)) = S at e4
        have x5 : Ext G3 H4 (upd G3 p (.lst (S.map (·.1)))) (upd H5 p (.lst (S.map (·.1)))) := (Ext.more x4.gh s5).trans (Ext.new (x4.gh.trans s5) hp)
        refine kq (.list ((lotsD ds).map .list)) (.ref p) _ _ ⟨ds, rfl, rfl⟩ ((x.trans x4).trans (x5.w x4.cl hw4)) (hw4.up x5.hh) (joinG_dq x5.gg (.lst upd_same ?_))
        have q := dqAll_of (G := G3) (zs := S.map fun b => (b.1, PyData.list b.2)) fun b hb => by
          obtain ⟨b2, hb2, rfl⟩ := List.mem_map.mp hb
          rw [← hS] at hb2
          have m2 : b2 ∈ vl.zip (powD ds) := (List.mergeSort_perm _ _).mem_iff.mp hb2
          refine dqAll_zip hall (b2.1, .list b2.2) ?_
          rw [zip_map_right' PyData.list]
          exact List.mem_map.mpr ⟨b2, m2, rfl⟩
        rw [List.map_map, List.map_map] at q
        rw [e4, List.map_map]
        exact q.up x5.gg
/-! ### _law_meeting -/
def lawMStep (ls : List (List PyData)) (found : List (List PyData)) (s : List PyData) : List (List PyData) := if (ls.all fun l => meetsD s l) && !found.any (fun o => withinD o s) then found ++ [s] else found
def lawMeetD (ts : List PyData) (ls : List (List PyData)) : List (List PyData) := sortLD ((lotsD (sortD ts)).foldl (lawMStep ls) [])
theorem lawM_sub (ls : List (List PyData)) : ∀ (F acc : List (List PyData)) (l : List PyData), l ∈ F.foldl (lawMStep ls) acc → l ∈ acc ∨ l ∈ F
  | [], acc, d, h => .inl h
  | x :: xs, acc, d, h => by
    rw [List.foldl_cons] at h
    rcases lawM_sub ls xs _ d h with q | q
    · unfold lawMStep at q
      split at q
      · rcases List.mem_append.mp q with q | q
        · exact .inl q
        · exact .inr (by simp at q; simp [q])
      · exact .inl q
    · exact .inr (List.mem_cons_of_mem _ q)
theorem lawM_len (ls : List (List PyData)) : ∀ (F acc : List (List PyData)), (F.foldl (lawMStep ls) acc).length ≤ acc.length + F.length
  | [], acc => by simp
  | x :: xs, acc => by
    rw [List.foldl_cons]
    have h := lawM_len ls xs (lawMStep ls acc x)
    have h2 : (lawMStep ls acc x).length ≤ acc.length + 1 := by unfold lawMStep; split <;> simp
    simp only [List.length_cons]
    omega
theorem lots_mem {ts : List PyData} {l : List PyData} (h : l ∈ lotsD ts) : l.length ≤ ts.length ∧ ∀ x ∈ l, x ∈ ts := by
  have h := (List.mergeSort_perm _ _).mem_iff.mp h
  obtain ⟨q1, q2⟩ := pow_mem ts [[]] 0 (by simp) l h
  refine ⟨by simpa using q1, fun x hx => ?_⟩
  rcases q2 x hx with y | ⟨l', y1, y2⟩
  · exact y
  · simp at y1; subst y1; cases y2
theorem lots_len (ts : List PyData) : (lotsD ts).length = 2 ^ ts.length := by
  unfold lotsD powD
  rw [(List.mergeSort_perm _ _).length_eq, pow_len]
  simp
abbrev nMeetingL : List Str := ["_law_things_here", "_law_lots_here", "_law_found", "_law_some", "_law_lot", "_law_one"]
theorem scMeetingL : FnScope nMeetingL ["_law_things_here", "_law_lots_here"] (defScope sMeetingL) := ⟨rfl, rfl, rfl, by decide +kernel, rfl, by decide +kernel, by decide +kernel⟩
def prMeetingL (ds : List PyData) : Prop := ∃ ts A ls, ds = [.list ts, .list (ls.map .list)] ∧ Kin ts ∧ ts.length ≤ 8 ∧ KinL A ls ∧ (∀ l ∈ ls, l.length ≤ 1000) ∧ ls.length ≤ 1000
def DMeetingL (ds : List PyData) (d : PyData) : Prop := ∃ ts ls, ds = [.list ts, .list (ls.map .list)] ∧ d = .list ((lawMeetD ts ls).map .list)
theorem map_list_inj {a b : List (List PyData)} (h : a.map PyData.list = b.map PyData.list) : a = b := (List.map_inj_right (fun a b e => PyData.list.inj e)).mp h
theorem fn_meetingL (D : Df K mg "_law_meeting" sMeetingL) (FL : Fn P w K mg base CX0 "_law_lots" 5 1 (spW t (fun _ => 0) prLotsL DLotsL)) (FM : Fn P w K mg base CX0 "_law_meets" 1 2 (spP DMeets)) (FW : Fn P w K mg base CX0 "_law_within" 1 2 (spP DWithin))
    (m1 : mg "all" = none) (m2 : mg "any" = none) (m3 : mg "sorted" = none) : Fn P w K mg base CX0 "_law_meeting" 6 2 (spW t (fun _ => 0) prMeetingL DMeetingL) := by
  refine D.fn scMeetingL (by rintro vs H Q E ⟨W, G, ds, n, ht, hG, hcl, hw, hl, hd, ⟨ts, A, ls, rfl, _⟩, k⟩; have := hd.len; simpa using this) rfl (fun _ _ _ _ _ _ us hl => match us, hl with | [_, _], _ => rfl) fun f cdv A' outer s H vs Q E hr hsp => ?_
  obtain ⟨W, G, ds, n, rfl, hG, hcl, hw, hl, hd, ⟨ts, A, ls, rfl, hk, hlen, hkl, hl1, hl2⟩, kq⟩ := hsp
  obtain ⟨u, u2, rfl, du, du2⟩ := hd.two
  have hu := hr.u65
  have hsz : sizeLine = 16777216 := sizeLine_eq
  have hr1 := hr.mono (show 1 ≤ 5 by decide)
  refine ⟨_, pss_cons (ps_set (i := 2) scMeetingL.nd rfl (.inl rfl) (pe_lst pa_nil))
    (pss_cons (ps_for PassesOwn.never rfl (pi_list (pe_fn FL hr (by rfl) pass0 (pa_cons (xe_sorted (K := K) m3 hu (pv 0)) pa_nil))) (pg_name (i := 3) scMeetingL.nd rfl (.inr rfl))
      (pss_one (ps_if (pw_and (pt_val (xe_all (K := K) m1 (xe_lc1 (tt := tYes) nMeetingL (defScope sMeetingL) 4 (pi_list (pv 1)) (by decide +kernel) scMeetingL.nd (.inr rfl) (fun _ _ _ _ _ => pts_nil) (fun _ _ _ _ _ => pe_fn FM hr1 (by rfl) pass0 (pa_cons (pv 3) (pa_cons (pv 4) pa_nil))))))
          (pw_and1 (pt_not (pt_val (xe_any (K := K) m2 (xe_lc1 (tt := tYes) nMeetingL (defScope sMeetingL) 5 (pi_list (pv 2)) (by decide +kernel) scMeetingL.nd (.inr rfl) (fun _ _ _ _ _ => pts_nil) (fun _ _ _ _ _ => pe_fn FW hr1 (by rfl) pass0 (pa_cons (pv 5) (pa_cons (pv 3) pa_nil))))))))).pt
        (pss_one (xs_append (pv 2) (pv 3))) pss_nil)))
    (pss_one (ps_ret (xe_sorted (K := K) m3 hu (pv 2))))), ?_⟩
  have hlim : n + 0 ≤ lim := hl
  refine ⟨by show 0 ≤ sizeLine; omega, fun p hp => ?_⟩
  have g0 : GrW W G H [p] G (upd H p (.lst [])) := (GrW.start hG hcl).new hw hp
  have hw0 := hw.up (same_new (o := .lst []) hp)
  have hks : Kin (sortD ts) := hk.sub fun d hd => sortD_mem.mp hd
  generalize hF : lotsD (sortD ts) = F
  have hFm : ∀ l ∈ F, l.length ≤ 8 ∧ ∀ x ∈ l, x ∈ ts := fun l hl => by
    rw [← hF] at hl
    obtain ⟨q1, q2⟩ := lots_mem hl
    rw [sortD_len] at q1
    exact ⟨by omega, fun x hx => sortD_mem.mp (q2 x hx)⟩
  have hFl : F.length ≤ 256 := by
    rw [← hF, lots_len, sortD_len]
    exact Nat.le_trans (Nat.pow_le_pow_right (by decide) hlen) (by decide)
  refine tForN_use (DL := (· = F.map .list)) g0.x.gh g0.x.cl hw0 (c := 0) hlim (WN_list (D := (· = .list (F.map .list))) (PN.imp (PN_call (c1 := 0) (c2 := 0) (PNA_of (PRA_one (PR_CB (RR_sorted hk.sortOk) (PRA_one (PV du))))) fun ds e => by
    subst e
    refine ⟨⟨sortD ts, rfl, hks, by rw [sortD_len]; exact hlen⟩, Nat.le_refl _, fun d ⟨ts', e1, e2⟩ => ?_⟩
    cases e1
    rw [e2, hF]) (Nat.le_refl _) fun _ h => h) fun d hd => ⟨_, hd, rfl⟩) fun ds J G1 H1 hds x1 hw1 dw => ?_
  subst hds
  have g1 := g0.ext hw x1
  have kp := g0.off hw (List.mem_cons_self ..)
  have e1 : H1 p = some (.lst []) := x1.hh _ _ upd_same ⟨kp.1, kp.2, fun _ z => nomatch z⟩
  have sh3 : ∀ l ∈ F, ShL 3 l := fun l hl d hd => hk.shL d ((hFm l hl).2 d hd)
  refine for_nm dw (fun i σ H2 => ∃ (G2 : Hp) (acc : List V) (x3 : Option V), σ = [some u, some u2, some (.ref p), x3, none, none] ∧ GrW W G H [p] G2 H2 ∧ WOk W n H2 ∧ Same G1 G2 ∧ H2 p = some (.lst acc) ∧ DqAll G2 acc (((F.take i).foldl (lawMStep ls) []).map .list)) ?_ ?_ ?_ ?_
  · exact ⟨G1, [], none, rfl, g1, hw1, Same.refl _, e1, .nil⟩
  · rintro i σ H2 _ ⟨G2, acc, x3, rfl, g, _, s2, _⟩
    exact s2.trans g.x.gh
  · rintro i d y σ H2 H3 q1 ⟨G2, acc, x3, rfl, g, hw2, s2, hacc, da⟩ q2 q3
    obtain ⟨l, hl, rfl⟩ := map_get q1
    obtain ⟨G3, g3, hw3, s3, dy⟩ := g.yld hw hw2 s2 q3
    have hacc3 := q2 _ _ hacc
    have da3 := da.up s3
    have hlm : l ∈ F := List.mem_of_getElem? hl
    have hfold := foldl_take (lawMStep ls) [] F i l hl
    have mem0 : ∀ o ∈ (F.take i).foldl (lawMStep ls) [], o ∈ F := fun o ho => (lawM_sub ls _ _ _ ho).elim (fun z => by simp at z) List.mem_of_mem_take
    have len0 : ((F.take i).foldl (lawMStep ls) []).length ≤ 256 := by
      have q := lawM_len ls (F.take i) []
      rw [List.length_take] at q
      simp only [List.length_nil] at q
      omega
    generalize (F.take i).foldl (lawMStep ls) [] = R at da3 hfold mem0 len0
    obtain ⟨t1, t2⟩ := g3.tmp (List.mem_cons_self ..) hacc3
    have du3 := (du2.up (g.x.gg.trans s3)).up t2
    have hvl := da3.len
    rw [List.length_map] at hvl
    refine tIf_use (b := (ls.all fun o => meetsD l o) && !R.any (fun o => withinD o l)) (TR_and (TR_tB (PR_all (bs := ls) (q := fun o => meetsD l o) (PR_map1 (enc := .list) (WR_list (PV du3)) (fun _ => rfl) (fun G4 o v h4 ho dv => PR_call (PRA_two (PV ((dy.up t2).up h4)) (PV dv)) ⟨l, o, rfl, rfl, (sh3 l hlm).mono (by decide), fun d hd => (hkl.1.shL d (hkl.2 o ho d hd)).mono (by decide), by have := (hFm l hlm).1; omega⟩) (by omega))))
      fun _ => TR_not (TR_tB (PR_any (bs := R) (q := fun o => withinD o l) (PR_map1 (enc := .list) (WR_list (PV (.lst upd_same (da3.up t2)))) (fun _ => rfl) (fun G4 o v h4 ho dv => PR_call (PRA_two (PV dv) (PV ((dy.up t2).up h4))) ⟨o, l, rfl, rfl, (sh3 o (mem0 o ho)).mono (by decide), (sh3 l hlm).mono (by decide), by have := (hFm o (mem0 o ho)).1; omega⟩) (by omega))))) t1 fun H4 e4 => ?_
    have g4 := g3.same hw e4
    have hw4 := hw3.up e4
    have hacc4 := e4 _ _ hacc3
    cases hb : (ls.all fun o => meetsD l o) && !R.any (fun o => withinD o l) with
    | true =>
      refine iteT (put_appendW g4 hw hw4 (List.mem_cons_self ..) rfl hacc4 (PR_var (i := 3) rfl dy) (by omega) fun v G5 H5 g5 hw5 s5 dv h5 _ => ⟨G5, _, some y, rfl, g5, hw5, (s2.trans s3).trans s5, h5, ?_⟩)
      rw [hfold]
      unfold lawMStep
      rw [if_pos hb, List.map_append]
      exact (da3.up s5).snoc dv
    | false =>
      refine iteF ⟨G3, acc, some y, rfl, g4, hw4, s2.trans s3, hacc4, ?_⟩
      rw [hfold]
      unfold lawMStep
      rw [if_neg (by rw [hb]; simp)]
      exact da3
  · rintro σ H2 ⟨G2, acc, x3, rfl, g, hw2, s2, hacc, da⟩
    rw [List.length_map, List.take_length] at da
    obtain ⟨g5, sg⟩ := g.freeze hw hacc
    have kl : KinL ts (F.foldl (lawMStep ls) []) := ⟨hk, fun l hl => (hFm l ((lawM_sub ls _ _ _ hl).elim (fun z => by simp at z) id)).2⟩
    refine tRetN_use g5.x.gh g5.x.cl hw2 (c := 0) hlim (PN_of (PR_CB (RR_sortedL kl) (PRA_one (PV (.lst upd_same (da.up sg)))))) fun d v G6 H6 hd6 x6 hw6 dv6 => ?_
    subst hd6
    exact kq _ v G6 H6 ⟨ts, ls, rfl, by unfold lawMeetD; rw [hF]⟩ (g5.x.trans x6) hw6 dv6
end
end K48
set_option Elab.async false
set_option linter.all false
set_option maxRecDepth 100000
set_option maxHeartbeats 4000000
/-! K48j: meeting, _law_spoilt -/
namespace K48
open PySem PySem.Spec PyProof.Rows L2 PD StX RZ NdefX LamX
section
variable {P : Program} {w : World} {K : PySem.W.Frag} {mg : Str → Option Value} {base : Heap} {t : Tb} {W : Wl} {n m : Nat} {G H H0 : Hp}
/-! ### meeting -/
def lotsOf (d : PyData) : List (List PyData) := (itemsD d).map lotD
def meetingD (dl : PyData) : List (List PyData) := sortLD (meetD (lotsOf dl))
/-- the data are small -/
def SmallK (d : PyData) : Prop := ShL 10 (keysD d) ∧ (keysD d).length ≤ 1000 ∧ (itemsD d).length ≤ 1000 ∧ ∀ o, o ∈ itemsD d → (itemsD o).length ≤ 1000
def SmallL (d : PyData) : Prop := (itemsD d).length ≤ 1000 ∧ ∀ l, l ∈ itemsD d → ShL 10 (keysD l) ∧ (keysD l).length ≤ 1000 ∧ (itemsD l).length ≤ 1000 ∧ ∀ o, o ∈ itemsD l → (itemsD o).length ≤ 1000
/-- what meeting asks of good arguments -/
structure GoodM (dk dl : PyData) : Prop where
  kk : Kin (keysD dk)
  sub : ∀ l ∈ itemsD dl, ∀ x ∈ keysD l, x ∈ keysD dk
  few : ∀ l ∈ itemsD dl, (keysD l).length ≤ 500
  num : (itemsD dl).length ≤ 500
  small : ∀ k, (meetD ((lotsOf dl).take k)).length ≤ 1000
def spMeeting (CK CL : Addr) : Sp := fun vs H Q E => ∃ G vk vl dk dl, vs = [vk, vl] ∧ Same G H ∧ Dq G vk dk ∧ Dq G vl dl ∧ SmallK dk ∧
  (badK dk = true → XOut CK "keyring" vk H E) ∧ (badK dk = false → Kin (keysD dk) ∧ SmallL dl ∧ (badL (thingsD dk) dl = true → XOut CL "lots" vl H E) ∧
    (badL (thingsD dk) dl = false → GoodM dk dl ∧ ∀ v G' H', Ext G H G' H' → Dq (cut H G') v (.list ((meetingD dl).map .list)) → Q v H'))
abbrev nMeeting : List Str := ["keys", "lots"]
theorem scMeeting : FnScope nMeeting ["keys", "lots"] (defScope sMeeting) := ⟨rfl, rfl, rfl, by decide +kernel, rfl, by decide +kernel, by decide +kernel⟩
theorem keys_len (d : PyData) : (lotD d).length = (keysD d).length := sortD_len _
theorem meet_kin {dk dl : PyData} (g : GoodM dk dl) : KinL (keysD dk) (meetD (lotsOf dl)) := by
  refine ⟨g.kk, fun l hl => (meetD_sub (A := keysD dk) (lotsOf dl) [[]] (fun l' hl' x hx => ?_) 0 (by simp) l hl).2⟩
  obtain ⟨o, ho, rfl⟩ := List.mem_map.mp hl'
  exact g.sub o ho x (sortD_mem.mp hx)
theorem ok_meeting {CK CL : Addr} (FT : Fn P w K mg base (L2.CX P w) "checked_things" 5 1 (spThings CK)) (FC : Fn P w K mg base (L2.CX P w) "checked_lots" 5 2 (spLots CL)) (FM : Fn P w K mg base CX0 "meeting_lists" 3 1 (spP DMeetings)) (m4 : mg "sorted" = none) :
    ∀ f fd, Fun K "meeting" "meeting" sMeeting f fd → FnOk P w K mg base (L2.CX P w) 6 f fd ["keys", "lots"] (spMeeting CK CL) := fun f fd F => by
  refine F.okX (N := nMeeting) (k := 5) scMeeting (by rintro vs H Q E ⟨G, vk, vl, dk, dl, rfl, _⟩; rfl) fun cdv A outer s H vs Q E hr hsp => ?_
  obtain ⟨G, vk, vl, dk, dl, rfl, hG, dvk, dvl, ⟨s1, s2, s3, s4⟩, hb1, hb2⟩ := hsp
  have hu := hr.u65
  refine ⟨_, pss_one (ps_ret (xe_sorted (K := K) m4 hu (pe_fn FM (hr.mono (by decide)) (by rfl) pass0 (pa_cons (pe_fn (E := E) FC hr (by rfl) (passes_call (takes_of rfl rfl rfl rfl) fun _ _ _ _ h => h) (pa_cons (pe_fn (E := E) FT hr (by rfl) (passes_call (takes_of rfl rfl rfl rfl) fun _ _ _ _ h => h) (pa_cons (pv 0) pa_nil)) (pa_cons (pv 1) pa_nil))) pa_nil)))), ?_⟩
  refine ⟨_, rfl, G, vk, dk, rfl, hG, dvk, s1, s2, s3, s4, fun hk => ?_, hb1⟩
  obtain ⟨kin, ⟨l1, l2⟩, hb3, hb4⟩ := hb2 hk
  refine ⟨kin, fun vt G1 H1 e1 dt => ⟨_, rfl, G1, vt, vl, thingsD dk, dl, rfl, e1.gh, dt, dvl.up e1.gg, fun d hd => (kin.shL d (sortD_mem.mp hd)).mono (by decide), l1, l2, fun hl => ?_, fun hl => (hb3 hl).back e1.hh⟩⟩
  obtain ⟨gm, kq⟩ := hb4 hl
  refine ⟨fun l hl => gm.kk.sub (gm.sub l hl), fun v2 G2 H2 e2 d2 => ⟨cut H G2, _, _, cut_sub.trans e2.gh, .cons (d2.up (cut_back e1.hh)) .nil, ⟨lotsOf dl, keysD dk, rfl, rfl, gm.kk, fun l hl x hx => ?_, fun l hl => ?_, ?_, gm.small⟩, fun v3 G3 H3 e3 d3 => ?_⟩⟩
  · obtain ⟨o, ho, rfl⟩ := List.mem_map.mp hl
    exact gm.sub o ho x (sortD_mem.mp hx)
  · obtain ⟨o, ho, rfl⟩ := List.mem_map.mp hl
    rw [keys_len]
    have := gm.few o ho
    omega
  · have := gm.num
    unfold lotsOf
    rw [List.length_map]
    omega
  · refine RR_sortedL (meet_kin gm) _ G3 H3 _ e3.gh (.cons d3 .nil) fun v4 G4 H4 e4 d4 => ?_
    have s2 : Same H H2 := e1.hh.trans e2.hh
    obtain ⟨G5, e5, s5⟩ := Ext.lift cut_sub e2.gh (e3.trans e4)
    refine kq v4 G5 H4 ((e1.trans e2).trans e5) ((d4.allNew (H := H) fun a xs q => ?_).up (cut_mono s5))
    rcases (e3.trans e4).fr a (by rw [q]; simp) with z | z
    · cases y : cut H G2 a with
      | none => exact absurd y z
      | some o =>
        have := (e3.trans e4).gg _ _ y
        rw [q] at this
        cases this
        exact cut_new y
    · exact s2.free z
theorem fn_meeting {CK CL : Addr} (D : Df K mg "meeting" sMeeting) (FT : Fn P w K mg base (L2.CX P w) "checked_things" 5 1 (spThings CK)) (FC : Fn P w K mg base (L2.CX P w) "checked_lots" 5 2 (spLots CL)) (FM : Fn P w K mg base CX0 "meeting_lists" 3 1 (spP DMeetings)) (m4 : mg "sorted" = none) :
    FnK P w K mg base (L2.CX P w) "meeting" 6 2 ["lots", "keys"] (fun l => swap2 l) (spMeeting CK CL) :=
  fnK2 D (fun _ _ _ _ _ _ us hl => match us, hl with | [_, _], _ => rfl) (fun _ _ _ _ _ _ us hl => match us, hl with | [_, _], _ => rfl) (ok_meeting FT FC FM m4)
/-! ### _law_spoilt -/
abbrev sSpoilt : Stmt := top 26
abbrev nSpoilt : List Str := ["_law_thing", "_law_part"]
theorem scSpoilt : FnScope nSpoilt ["_law_thing"] (defScope sSpoilt) := ⟨rfl, rfl, rfl, by decide +kernel, rfl, by decide +kernel, by decide +kernel⟩
/-- a text, or a tuple of texts -/
def Thg (H : Hp) (x : V) : Prop := (∃ s, x = .str s) ∨ ∃ a ys, x = .ref a ∧ H a = some (.tup ys) ∧ ∀ y ∈ ys, ∃ s, y = .str s
def late : V := .str "late"
def spSpoilt : Nat → Sp
  | 0 => fun vs H Q _ => ∃ s, vs = [.str s] ∧ ∀ H', Same H H' → Q .non H'
  | 1 => fun vs H Q _ => ∃ x, vs = [x] ∧ Thg H x ∧ ∀ H', Same H H' → Q .non H'
  | 2 => fun vs H Q _ => ∃ a xs, vs = [.ref a] ∧ H a = some (.lst xs) ∧ (∀ x ∈ xs, Thg H x) ∧ xs.length ≤ 3000 ∧ ∀ H', (∀ b o, b ≠ a → H b = some o → H' b = some o) → H' a = some (.lst (xs ++ [late])) → Q .non H'
  | _ => fun vs H Q _ => ∃ a xs, vs = [.ref a] ∧ H a = some (.lst xs) ∧ xs.length ≤ 1000 ∧ (∀ x ∈ xs, ∃ b ys, x = .ref b ∧ b ≠ a ∧ H b = some (.lst ys) ∧ ys.length ≤ 1000 ∧ ∀ y ∈ ys, Thg H y) ∧
      ∀ H', (∀ b o, b ≠ a → .ref b ∉ xs → H b = some o → H' b = some o) → (∀ b, H' b = none → H b = none) → Q .non H'
theorem thg_up {H H' : Hp} {x : V} (h : Thg H x) (e : ∀ b ys, H b = some (.tup ys) → H' b = some (.tup ys)) : Thg H' x := h.elim .inl fun ⟨a, ys, h1, h2, h3⟩ => .inr ⟨a, ys, h1, e _ _ h2, h3⟩
theorem spoilt0 (D : Df K mg "_law_spoilt" sSpoilt) (m1 : mg "isinstance" = none) (m2 : mg "list" = none) (m3 : mg "tuple" = none) : Fn P w K mg base CX0 "_law_spoilt" 1 1 (spSpoilt 0) := by
  refine D.fn scSpoilt (by rintro vs H Q E ⟨s, rfl, _⟩; rfl) rfl (fun _ _ _ _ _ _ us hl => match us, hl with | [_], _ => rfl) fun f cdv A outer s H vs Q E hr hsp => ?_
  obtain ⟨x, rfl, k⟩ := hsp
  refine ⟨_, pss_one (ps_if (pt_val (xe_isi2 (K := K) (U := "list") (U' := "tuple") m1 m2 m3 (by decide +kernel) (by decide +kernel) (pv 0)))
      (pss_cons (ps_for PassesOwn.never rfl (xi_seq (K := K) (pv 0)) (pg_name (i := 1) scSpoilt.nd rfl (.inl rfl)) (pss_one (ps_never)))
      (pss_one (ps_if (pt_val (xe_isi (K := K) (U := "list") m1 m2 (by decide +kernel) (pv 0))) (pss_one (xs_append (pv 0) pe_str)) pss_nil))) pss_nil), ?_⟩
  refine tIf_use (G := fun _ => none) (b := false) (TR.eq (TR_tB (PR_isi2 (PV (.str x)) (kitL _) (kitT _))) rfl) (fun _ _ e => nomatch e) fun H1 e1 => iteF (nxt (k H1 e1))
/-- the answers of isinstance of what stands at a -/
theorem lst_isi {H : Hp} {a : Addr} {xs : List V} (h : H a = some (.lst xs)) {σ : L2.St} (hσ : σ[0]? = some (some (.ref a))) {Q : Bool → Hp → Prop} (k : ∀ H', Same H H' → Q true H') : tB (tCB (rIsiT K) (tCons (tVar 0) (tCons (tTup (tCons (tC (.ty "list")) (tCons (tC (.ty "tuple")) tNil))) tNil))) σ H Q :=
  ⟨_, hσ, by show 2 ≤ sizeLine; rw [sizeLine_eq]; omega, fun p hp => ⟨.ref a, p, [.ty "list", .ty "tuple"], _, [.type "list", .type "tuple"], true, rfl, upd_same, .cons (.ty "list") (.cons (.ty "tuple") .nil), .base (.lst (same_new hp _ _ h)), kit2 (b := true) (c := false) (by decide +kernel) (by decide +kernel), true, rfl, k _ (same_new hp)⟩⟩
theorem tup_isi {H : Hp} {a : Addr} {xs : List V} (h : H a = some (.tup xs)) {σ : L2.St} (hσ : σ[0]? = some (some (.ref a))) {Q : Bool → Hp → Prop} (k : ∀ H', Same H H' → Q true H') : tB (tCB (rIsiT K) (tCons (tVar 0) (tCons (tTup (tCons (tC (.ty "list")) (tCons (tC (.ty "tuple")) tNil))) tNil))) σ H Q :=
  ⟨_, hσ, by show 2 ≤ sizeLine; rw [sizeLine_eq]; omega, fun p hp => ⟨.ref a, p, [.ty "list", .ty "tuple"], _, [.type "list", .type "tuple"], true, rfl, upd_same, .cons (.ty "list") (.cons (.ty "tuple") .nil), .base (.tup (same_new hp _ _ h)), kit2 (b := false) (c := true) (by decide +kernel) (by decide +kernel), true, rfl, k _ (same_new hp)⟩⟩
theorem lst_isi1 {H : Hp} {a : Addr} {xs : List V} (h : H a = some (.lst xs)) {σ : L2.St} (hσ : σ[0]? = some (some (.ref a))) {Q : Bool → Hp → Prop} (k : Q true H) : tB (tCB (rIsi K) (tCons (tVar 0) (tCons (tC (.ty "list")) tNil))) σ H Q :=
  ⟨_, hσ, .ref a, .ty "list", _, _, true, rfl, .ty "list", .base (.lst h), kit_ty (a := "list") (b := "list") (by decide +kernel), true, rfl, k⟩
theorem tup_isi1 {H : Hp} {a : Addr} {xs : List V} (h : H a = some (.tup xs)) {σ : L2.St} (hσ : σ[0]? = some (some (.ref a))) {Q : Bool → Hp → Prop} (k : Q false H) : tB (tCB (rIsi K) (tCons (tVar 0) (tCons (tC (.ty "list")) tNil))) σ H Q :=
  ⟨_, hσ, .ref a, .ty "list", _, _, false, rfl, .ty "list", .base (.tup h), kit_ty (a := "tuple") (b := "list") (by decide +kernel), false, rfl, k⟩
theorem spoilt1 (D : Df K mg "_law_spoilt" sSpoilt) (m1 : mg "isinstance" = none) (m2 : mg "list" = none) (m3 : mg "tuple" = none) : Fn P w K mg base CX0 "_law_spoilt" 2 1 (spSpoilt 1) := by
  have FS : Fn P w K mg base CX0 "_law_spoilt" 1 1 (spSpoilt 0) := spoilt0 D m1 m2 m3
  refine D.fn scSpoilt (by rintro vs H Q E ⟨s, rfl, _⟩; rfl) rfl (fun _ _ _ _ _ _ us hl => match us, hl with | [_], _ => rfl) fun f cdv A outer s H vs Q E hr hsp => ?_
  obtain ⟨x, rfl, ht, k⟩ := hsp
  refine ⟨_, pss_one (ps_if (pt_val (xe_isi2 (K := K) (U := "list") (U' := "tuple") m1 m2 m3 (by decide +kernel) (by decide +kernel) (pv 0)))
      (pss_cons (ps_for PassesOwn.never rfl (xi_seq (K := K) (pv 0)) (pg_name (i := 1) scSpoilt.nd rfl (.inl rfl)) (pss_one (ps_expr (pe_fn FS hr (by rfl) pass0 (pa_cons (pv 1) pa_nil)) (by rfl))))
      (pss_one (ps_if (pt_val (xe_isi (K := K) (U := "list") m1 m2 (by decide +kernel) (pv 0))) (pss_one (xs_append (pv 0) pe_str)) pss_nil))) pss_nil), ?_⟩
  rcases ht with ⟨x, rfl⟩ | ⟨a, ys, rfl, ha, hy⟩
  · exact tIf_use (G := fun _ => none) (b := false) (TR.eq (TR_tB (PR_isi2 (PV (.str x)) (kitL _) (kitT _))) rfl) (fun _ _ e => nomatch e) fun H1 e1 => iteF (nxt (k H1 e1))
  · refine tup_isi ha rfl fun H1 e1 => iteT ?_
    have h1 := e1 _ _ ha
    refine ⟨_, rfl, a, rfl, .inr ⟨ys, SqT.of h1, ?_⟩⟩
    refine for_it walk_tup (fun i σ H2 => ∃ x1, σ = [some (.ref a), x1] ∧ Same H1 H2) ⟨none, rfl, Same.refl _⟩ (fun i σ H2 _ ⟨_, _, e⟩ => SqT.of (e _ _ h1)) ?_ ?_
    · rintro i y σ H2 H3 hi ⟨x1, rfl, e2⟩ ⟨rfl, hy2⟩
      obtain ⟨sx, rfl⟩ := hy y (List.mem_of_getElem? hy2)
      exact ⟨_, rfl, sx, rfl, fun H4 e4 => ⟨_, rfl, e2.trans e4⟩⟩
    · rintro σ H2 ⟨x1, rfl, e2⟩
      exact tup_isi1 (e2 _ _ h1) rfl (iteF (nxt (k H2 (e1.trans e2))))
theorem spoilt2 (D : Df K mg "_law_spoilt" sSpoilt) (m1 : mg "isinstance" = none) (m2 : mg "list" = none) (m3 : mg "tuple" = none) : Fn P w K mg base CX0 "_law_spoilt" 3 1 (spSpoilt 2) := by
  have FS : Fn P w K mg base CX0 "_law_spoilt" 2 1 (spSpoilt 1) := spoilt1 D m1 m2 m3
  refine D.fn scSpoilt (by rintro vs H Q E ⟨a, xs, rfl, _⟩; rfl) rfl (fun _ _ _ _ _ _ us hl => match us, hl with | [_], _ => rfl) fun f cdv A outer s H vs Q E hr hsp => ?_
  obtain ⟨a, xs, rfl, ha, ht, hlen, k⟩ := hsp
  have hsz : sizeLine = 16777216 := sizeLine_eq
  refine ⟨_, pss_one (ps_if (pt_val (xe_isi2 (K := K) (U := "list") (U' := "tuple") m1 m2 m3 (by decide +kernel) (by decide +kernel) (pv 0)))
      (pss_cons (ps_for PassesOwn.never rfl (xi_seq (K := K) (pv 0)) (pg_name (i := 1) scSpoilt.nd rfl (.inl rfl)) (pss_one (ps_expr (pe_fn FS hr (by rfl) pass0 (pa_cons (pv 1) pa_nil)) (by rfl))))
      (pss_one (ps_if (pt_val (xe_isi (K := K) (U := "list") m1 m2 (by decide +kernel) (pv 0))) (pss_one (xs_append (pv 0) pe_str)) pss_nil))) pss_nil), ?_⟩
  refine lst_isi ha rfl fun H1 e1 => iteT ?_
  have h1 := e1 _ _ ha
  refine ⟨_, rfl, a, rfl, .inl ⟨xs, SqL.of h1, ?_⟩⟩
  refine for_it walk_list (fun i σ H2 => ∃ x1, σ = [some (.ref a), x1] ∧ Same H1 H2) ⟨none, rfl, Same.refl _⟩ (fun i σ H2 _ ⟨_, _, e⟩ => SqL.of (e _ _ h1)) ?_ ?_
  · rintro i y σ H2 H3 hi ⟨x1, rfl, e2⟩ ⟨rfl, hy2⟩
    exact ⟨_, rfl, y, rfl, thg_up (ht y (List.mem_of_getElem? hy2)) fun b ys e => e2 _ _ (e1 _ _ e), fun H4 e4 => ⟨_, rfl, e2.trans e4⟩⟩
  · rintro σ H2 ⟨x1, rfl, e2⟩
    have h2 := e2 _ _ h1
    refine lst_isi1 h2 rfl (iteT ⟨_, rfl, .inl ⟨rfl, _, SqL.of h2⟩, a, xs, _, rfl, rfl, h2, by omega, k _ (fun b o hb e => ?_) upd_same⟩)
    rw [upd_ne hb]
    exact e2 _ _ (e1 _ _ e)
theorem fn_spoilt (D : Df K mg "_law_spoilt" sSpoilt) (m1 : mg "isinstance" = none) (m2 : mg "list" = none) (m3 : mg "tuple" = none) : Fn P w K mg base CX0 "_law_spoilt" 4 1 (spSpoilt 3) := by
  have FS : Fn P w K mg base CX0 "_law_spoilt" 3 1 (spSpoilt 2) := spoilt2 D m1 m2 m3
  refine D.fn scSpoilt (by rintro vs H Q E ⟨a, xs, rfl, _⟩; rfl) rfl (fun _ _ _ _ _ _ us hl => match us, hl with | [_], _ => rfl) fun f cdv A outer s H vs Q E hr hsp => ?_
  obtain ⟨a, xs, rfl, ha, hlen, ht, k⟩ := hsp
  have hsz : sizeLine = 16777216 := sizeLine_eq
  refine ⟨_, pss_one (ps_if (pt_val (xe_isi2 (K := K) (U := "list") (U' := "tuple") m1 m2 m3 (by decide +kernel) (by decide +kernel) (pv 0)))
      (pss_cons (ps_for PassesOwn.never rfl (xi_seq (K := K) (pv 0)) (pg_name (i := 1) scSpoilt.nd rfl (.inl rfl)) (pss_one (ps_expr (pe_fn FS hr (by rfl) pass0 (pa_cons (pv 1) pa_nil)) (by rfl))))
      (pss_one (ps_if (pt_val (xe_isi (K := K) (U := "list") m1 m2 (by decide +kernel) (pv 0))) (pss_one (xs_append (pv 0) pe_str)) pss_nil))) pss_nil), ?_⟩
  refine lst_isi ha rfl fun H1 e1 => iteT ?_
  have h1 := e1 _ _ ha
  refine ⟨_, rfl, a, rfl, .inl ⟨xs, SqL.of h1, ?_⟩⟩
  refine for_it walk_list (fun i σ H2 => ∃ x1, σ = [some (.ref a), x1] ∧ (∀ b o, .ref b ∉ xs → H1 b = some o → H2 b = some o) ∧ (∀ b, H2 b = none → H1 b = none) ∧ H2 a = some (.lst xs) ∧ ∀ x ∈ xs, ∃ b ys, x = .ref b ∧ b ≠ a ∧ H2 b = some (.lst ys) ∧ ys.length ≤ 1000 + i ∧ ∀ y ∈ ys, Thg H2 y) ?_ (fun i σ H2 _ ⟨_, _, _, _, e, _⟩ => SqL.of e) ?_ ?_
  · refine ⟨none, rfl, fun b o _ e => e, fun b e => e, h1, fun x hx => ?_⟩
    obtain ⟨b, ys, p1, p2, p3, p4, p5⟩ := ht x hx
    exact ⟨b, ys, p1, p2, e1 _ _ p3, by omega, fun y hy => thg_up (p5 y hy) fun b ys e => e1 _ _ e⟩
  · rintro i y σ H2 H3 hi ⟨x1, rfl, q1, q2, q3, q4⟩ ⟨rfl, hy2⟩
    have ym := List.mem_of_getElem? hy2
    obtain ⟨b, ys, rfl, p2, p3, p4, p5⟩ := q4 y ym
    refine ⟨_, rfl, b, ys, rfl, p3, p5, by omega, fun H4 r1 r2 => ?_⟩
    have tups : ∀ c zs, H3 c = some (.tup zs) → H4 c = some (.tup zs) := fun c zs e => r1 c _ (fun z => by rw [z, p3] at e; cases e) e
    refine ⟨_, rfl, fun c o hc e => r1 c o (fun z => hc (z ▸ ym)) (q1 c o hc e), fun c e => ?_, r1 _ _ p2.symm q3, fun x hx => ?_⟩
    · cases z : H3 c with
      | none => exact q2 c z
      | some o =>
        by_cases hcb : c = b
        · subst hcb; rw [r2] at e; cases e
        · rw [r1 c o hcb z] at e; cases e
    · obtain ⟨b2, ys2, s1, s2, s3, s4, s5⟩ := q4 x hx
      by_cases hb : b2 = b
      · subst hb
        rw [p3] at s3
        cases s3
        refine ⟨b2, _, s1, s2, r2, by simp; omega, fun y hy => ?_⟩
        rcases List.mem_append.mp hy with hy | hy
        · exact thg_up (p5 y hy) tups
        · simp at hy; subst hy; exact .inl ⟨_, rfl⟩
      · exact ⟨b2, ys2, s1, s2, r1 _ _ hb s3, by omega, fun y hy => thg_up (s5 y hy) tups⟩
  · rintro σ H2 ⟨x1, rfl, q1, q2, q3, q4⟩
    refine lst_isi1 q3 rfl (iteT ⟨_, rfl, .inl ⟨rfl, _, SqL.of q3⟩, a, xs, _, rfl, rfl, q3, by omega, k _ (fun b o hb hx e => ?_) fun b e => ?_⟩)
    · rw [upd_ne hb]
      exact q1 b o hx (e1 _ _ e)
    · exact e1.free (q2 b (NdefX.upd_none e))
end
end K48
set_option Elab.async false
set_option linter.all false
set_option maxRecDepth 100000
set_option maxHeartbeats 4000000
/-! PdDict: a dict of truth values whose keys are tuples of things (texts, tuples of texts) -/
namespace PD
open PySem PySem.Spec PySem.W PyProof.Rows L2
mutual
def keyOf : PyData → NestedKey
  | .str x => .text x
  | .tuple ds => .tup (keysOf ds)
  | _ => .none
def keysOf : List PyData → List NestedKey
  | [] => []
  | d :: ds => keyOf d :: keysOf ds
end

mutual
def plainK : PyData → Bool
  | .str _ => true
  | .tuple ds => plainKs ds
  | _ => false
def plainKs : List PyData → Bool
  | [] => true
  | d :: ds => plainK d && plainKs ds
end
mutual
theorem keyOf_inj : ∀ a b : PyData, plainK a = true → plainK b = true → keyOf a = keyOf b → a = b
  | .str x, .str y, _, _, h => by simp only [keyOf, NestedKey.text.injEq] at h; rw [h]
  | .str x, .tuple ds, _, _, h => by simp [keyOf] at h
  | .tuple ds, .str y, _, _, h => by simp [keyOf] at h
  | .tuple ds, .tuple es, ha, hb, h => by
    simp only [keyOf, NestedKey.tup.injEq] at h
    rw [keysOf_inj ds es (by simpa [plainK] using ha) (by simpa [plainK] using hb) h]
  | .none, _, h, _, _ => by simp [plainK] at h
  | .bool _, _, h, _, _ => by simp [plainK] at h
  | .int _, _, h, _, _ => by simp [plainK] at h
  | .list _, _, h, _, _ => by simp [plainK] at h
  | .dict _, _, h, _, _ => by simp [plainK] at h
  | .str _, .none, _, h, _ => by simp [plainK] at h
  | .str _, .bool _, _, h, _ => by simp [plainK] at h
  | .str _, .int _, _, h, _ => by simp [plainK] at h
  | .str _, .list _, _, h, _ => by simp [plainK] at h
  | .str _, .dict _, _, h, _ => by simp [plainK] at h
  | .tuple _, .none, _, h, _ => by simp [plainK] at h
  | .tuple _, .bool _, _, h, _ => by simp [plainK] at h
  | .tuple _, .int _, _, h, _ => by simp [plainK] at h
  | .tuple _, .list _, _, h, _ => by simp [plainK] at h
  | .tuple _, .dict _, _, h, _ => by simp [plainK] at h
theorem keysOf_inj : ∀ as bs : List PyData, plainKs as = true → plainKs bs = true → keysOf as = keysOf bs → as = bs
  | [], [], _, _, _ => rfl
  | [], _ :: _, _, _, h => by simp [keysOf] at h
  | _ :: _, [], _, _, h => by simp [keysOf] at h
  | a :: as, b :: bs, ha, hb, h => by
    rw [plainKs, Bool.and_eq_true] at ha hb
    rw [keysOf, keysOf, List.cons.injEq] at h
    rw [keyOf_inj a b ha.1 hb.1 h.1, keysOf_inj as bs ha.2 hb.2 h.2]
end
section
variable {P : Program} {w : World} {H G : Hp} {h : Heap}
mutual
theorem Dq.nested (ok : HOk P w H h) : ∀ (d : PyData) (v : V) (u : Value), Dq H v d → RelV v u → plainK d = true → NestedIs h (keyOf d) u
  | .str x, _, _, hd, r, _ => by
    cases hd
    obtain ⟨t, rfl⟩ := r
    exact .text x t
  | .tuple ds, _, _, hd, r, p => by
    cases hd with
    | tup h1 h2 =>
      cases r
      obtain ⟨_, its, rv, o, e, c1, m, c2⟩ := ok _ _ h1
      exact .tup e c1 c2 (DqAll.nested ok ds _ _ h2 rv (by simpa [plainK] using p))
  | .none, _, _, _, _, p => by simp [plainK] at p
  | .bool _, _, _, _, _, p => by simp [plainK] at p
  | .int _, _, _, _, _, p => by simp [plainK] at p
  | .list _, _, _, _, _, p => by simp [plainK] at p
  | .dict _, _, _, _, _, p => by simp [plainK] at p
theorem DqAll.nested (ok : HOk P w H h) : ∀ (ds : List PyData) (vs : List V) (us : List Value), DqAll H vs ds → Vals vs us → plainKs ds = true → NestedAll h (keysOf ds) us
  | [], _, _, hd, r, _ => by
    cases hd
    cases r
    exact .nil
  | d :: ds, _, _, hd, r, p => by
    rw [plainKs, Bool.and_eq_true] at p
    cases hd with
    | cons h1 h2 =>
      cases r with
      | cons r1 r2 => exact .cons (Dq.nested ok d _ _ h1 r1 p.1) (DqAll.nested ok ds _ _ h2 r2 p.2)
end
mutual
theorem key_depth : ∀ d : PyData, (keyOf d).depth ≤ d.depth
  | .str x => by simp [keyOf, NestedKey.depth]
  | .tuple ds => by
    have := keys_depth ds
    simp only [keyOf, NestedKey.depth, PyData.depth]
    omega
  | .none => by simp [keyOf, NestedKey.depth]
  | .bool _ => by simp [keyOf, NestedKey.depth]
  | .int _ => by simp [keyOf, NestedKey.depth]
  | .list _ => by simp [keyOf, NestedKey.depth]
  | .dict _ => by simp [keyOf, NestedKey.depth]
theorem keys_depth : ∀ ds : List PyData, NestedKey.depthAll (keysOf ds) ≤ PyData.depthAll ds
  | [] => by simp [keysOf, NestedKey.depthAll]
  | d :: ds => by
    have h1 := key_depth d
    have h2 := keys_depth ds
    simp only [keysOf, NestedKey.depthAll, PyData.depthAll]
    omega
end
/-- the dict at d, by its entries -/
def KnO (P : Program) (w : World) (d : Addr) (xs : List (NestedKey × Addr × Value)) : HO := .ext fun h => (d == sysModules) = false ∧ ∃ o es ep, h.get? d = some o ∧ o.ExactDict ∧ o.data = .dict es ep ∧ es.toList = xs.map (entryOfKey (nestedKind P w)) ∧ (xs.map (·.1)).Nodup
/-- a good key -/
def GoodK (l : List PyData) : Prop := plainKs l = true ∧ PyData.depth (.tuple l) ≤ 8
/-- the entries: data and truth values -/
abbrev Kn := List (List PyData × Bool)
/-- the entries' tuples stand in H -/
def KnE (H : Hp) : List (NestedKey × Addr × Value) → Kn → Prop
  | [], [] => True
  | x :: xs, k :: ks => x.1 = keyOf (.tuple k.1) ∧ Dq H (.ref x.2.1) (.tuple k.1) ∧ GoodK k.1 ∧ x.2.2 = .bool k.2 ∧ KnE H xs ks
  | _, _ => False
theorem KnE.up {H' : Hp} (e : Same H H') : ∀ {xs : List (NestedKey × Addr × Value)} {ks : Kn}, KnE H xs ks → KnE H' xs ks
  | [], [], _ => trivial
  | _ :: _, _ :: _, ⟨a, b, c, d, r⟩ => ⟨a, b.up e, c, d, KnE.up e r⟩
  | [], _ :: _, h => h.elim
  | _ :: _, [], h => h.elim
theorem KnE.snoc {x : NestedKey × Addr × Value} {k : List PyData × Bool} (hx : x.1 = keyOf (.tuple k.1) ∧ Dq H (.ref x.2.1) (.tuple k.1) ∧ GoodK k.1 ∧ x.2.2 = .bool k.2) : ∀ {xs : List (NestedKey × Addr × Value)} {ks : Kn}, KnE H xs ks → KnE H (xs ++ [x]) (ks ++ [k])
  | [], [], _ => ⟨hx.1, hx.2.1, hx.2.2.1, hx.2.2.2, trivial⟩
  | _ :: _, _ :: _, ⟨a, b, c, d, r⟩ => ⟨a, b, c, d, KnE.snoc hx r⟩
  | [], _ :: _, h => h.elim
  | _ :: _, [], h => h.elim
theorem KnE.is (ok : HOk P w H h) : ∀ {xs : List (NestedKey × Addr × Value)} {ks : Kn}, KnE H xs ks → ∀ x ∈ xs, (nestedKind P w).is h x.1 x.2.1
  | [], [], _, x, hx => by cases hx
  | y :: ys, k :: ks, ⟨a, b, c, d, r⟩, x, hx => by
    rcases List.mem_cons.mp hx with rfl | hx
    · rw [a]
      exact ⟨Dq.nested ok _ _ _ b rfl (by simpa [plainK] using c.1), Nat.le_trans (key_depth _) c.2⟩
    · exact KnE.is ok r x hx
  | [], _ :: _, h, _, _ => h.elim
  | _ :: _, [], h, _, _ => h.elim
/-- what is known of l -/
def knAt : Kn → List PyData → Option Bool
  | [], _ => none
  | k :: ks, l => if keyOf (.tuple k.1) = keyOf (.tuple l) then some k.2 else knAt ks l
theorem KnE.at_ {l : List PyData} : ∀ {xs : List (NestedKey × Addr × Value)} {ks : Kn}, KnE H xs ks → (atKey xs (keyOf (.tuple l))).map (·.2) = (knAt ks l).map Value.bool
  | [], [], _ => rfl
  | x :: xs, k :: ks, ⟨a, b, c, d, r⟩ => by
    have ih := KnE.at_ (l := l) r
    by_cases e : keyOf (.tuple k.1) = keyOf (.tuple l)
    · simp [atKey, knAt, a, d, e]
    · simpa [atKey, knAt, a, e] using ih
  | [], _ :: _, h => h.elim
  | _ :: _, [], h => h.elim
theorem knO_of {d : Addr} {xs : List (NestedKey × Addr × Value)} {ks : Kn} (ok : HOk P w H h) (e : H d = some (KnO P w d xs)) (ke : KnE H xs ks) : (d == sysModules) = false ∧ h.DictOfH (nestedKind P w) d xs := by
  obtain ⟨⟨z, o, es, ep, e1, e2, e3, e4, e5⟩, _⟩ := ok d _ e
  exact ⟨z, o, es, ep, e1, e2, e3, e4, ke.is ok, e5⟩
theorem knO_ok {d : Addr} {xs : List (NestedKey × Addr × Value)} (z : (d == sysModules) = false) (x : h.DictOfH (nestedKind P w) d xs) : ObjOk P w H h d (KnO P w d xs) := by
  obtain ⟨o, es, ep, e1, e2, e3, e4, _, e5⟩ := x
  exact ⟨⟨z, o, es, ep, e1, e2, e3, e4, e5⟩, ⟨o, e1⟩, fun h1 h2 ⟨z, o, es, ep, e1, r⟩ st => ⟨z, o, es, ep, st _ e1, r⟩⟩
end
section
variable {X : Cx} {pins : List (Addr × Obj)} {σ : L2.St} {H : Hp} {s : Shared}
/-- a in d, d[a], d[a] = v: the dict at d, the key at a -/
structure DKey (P : Program) (w : World) (H : Hp) (d a : Addr) (l : List PyData) (xs : List (NestedKey × Addr × Value)) (ks : Kn) : Prop where
  d : H d = some (KnO P w d xs)
  k : Dq H (.ref a) (.tuple l)
  g : GoodK l
  e : KnE H xs ks
  z : xs.length < 16000000
theorem DKey.is {d a : Addr} {l : List PyData} {xs : List (NestedKey × Addr × Value)} {ks : Kn} (y : DKey X.prog X.w H d a l xs ks) (I : Inv X pins σ H s) : (nestedKind X.prog X.w).is s.heap (keyOf (.tuple l)) a :=
  ⟨Dq.nested I.hok _ _ _ y.k rfl (by simpa [plainK] using y.g.1), Nat.le_trans (key_depth _) y.g.2⟩
def rNotInK (P : Program) (w : World) : R2 := fun x y H Q => ∃ a d l xs ks, x = .ref a ∧ y = .ref d ∧ DKey P w H d a l xs ks ∧ Q (.bl (!(knAt ks l).isSome)) H
theorem op_notInK (hu : X.A.units + 65 < cLine) : OpR X (compareOp .NotIn) (rNotInK X.prog X.w) := by
  intro pins s σ H x y v u Q I rx ry ⟨a, d, l, xs, ks, ex, ey, k, q⟩
  subst ex ey
  cases rx
  cases ry
  obtain ⟨z, hm⟩ := knO_of I.hok k.d k.e
  have e := k.e.at_ (l := l)
  refine notIn_keyed (kvs := pairsH xs) (by show X.A.units + 1 + 8 < cLine; omega) (k.is I) z ⟨xs, hm, rfl⟩ ?_
  rw [valueAt_pairsH, e, Option.isSome_map]
  exact ⟨.bl _, H, I.tok _, rfl, q⟩
def tGetK (P : Program) (w : World) (td tk : TE) : TE := fun σ H Q => td σ H fun x H1 => tk σ H1 fun y H2 => ∃ a d l xs ks b, x = .ref d ∧ y = .ref a ∧ DKey P w H2 d a l xs ks ∧ knAt ks l = some b ∧ Q (.bl b) H2
theorem pe_getK {o i : Expr} {td tk : TE} {pos : Pos} (hu : X.A.units + 65 < cLine) (ho : PE X o td) (hi : PE X i tk) (hs : NoSl i) : PE X (.Subscript o i pos) (tGetK X.prog X.w td tk) := by
  refine ⟨fun pins s σ H Q I h => ?_⟩
  refine subD_of PySem.F.slot_dict_getitem.lookup hs (thn (ho.run pins s σ H _ I h) fun u s1 ⟨x, H1, I1, rx, q1⟩ => thn (hi.run pins s1 σ H1 _ I1 q1) fun iv s2 ⟨y, H2, I2, ry, a, d, l, xs, ks, b, ex, ey, k, hb, q2⟩ => ?_)
  subst ex ey
  cases rx
  cases ry
  obtain ⟨z, hm⟩ := knO_of I2.hok k.d k.e
  have e := k.e.at_ (l := l)
  rw [hb] at e
  obtain ⟨p, hp, hv⟩ : ∃ p, atKey xs (keyOf (.tuple l)) = some p ∧ p.2 = .bool b := by
    cases q : atKey xs (keyOf (.tuple l)) with
    | none => rw [q] at e; cases e
    | some p => rw [q] at e; exact ⟨p, rfl, Option.some.inj e⟩
  refine ⟨hm.typeIs, wpAny_getItem_heap (by show X.A.units + 1 + 8 < cLine; omega) (k.is I2) hm hp ?_⟩
  rw [hv]
  exact ⟨.bl b, H2, I2.tok _, rfl, q2⟩
def rSetK (P : Program) (w : World) : TSet := fun o i v H Q => ∃ a d l xs ks b, o = .ref d ∧ i = .ref a ∧ v = .bl b ∧ DKey P w H d a l xs ks ∧ knAt ks l = none ∧ Q (upd H d (KnO P w d (xs ++ [(keyOf (.tuple l), a, .bool b)])))
theorem set_K (hu : X.A.units + 65 < cLine) : PSet X (rSetK X.prog X.w) := by
  intro pins s σ H o i v ov iv u Q I ro ri rv ⟨a, d, l, xs, ks, b, eo, ei, ev, k, hn, q⟩
  subst eo ei ev
  cases ro
  cases ri
  cases rv
  obtain ⟨z, hm⟩ := knO_of I.hok k.d k.e
  have e := k.e.at_ (l := l)
  rw [hn] at e
  have hat : atKey xs (keyOf (.tuple l)) = none := by
    cases q : atKey xs (keyOf (.tuple l)) with
    | none => rfl
    | some p => rw [q] at e; cases e
  refine wpAny_setItem_heap (knd := nestedKind X.prog X.w) (by show X.A.units + 1 + 8 < cLine; omega) (k.is I) hm (fun h' hm' sb => ?_) (by rw [sizeLine_eq]; have := k.z; omega)
  rw [storedH_new hat] at hm'
  refine ⟨_, I.write (x := d) (e := d) (o := KnO X.prog X.w d (xs ++ [(keyOf (.tuple l), a, .bool b)])) (by rw [k.d]; exact True.intro) (.inl rfl) (fun c u hc q => (sb.2 c hc).trans q) (let ⟨o, _, _, e, _⟩ := hm'; ⟨o, e⟩) (knO_ok z hm'), q⟩
/-- {} -/
def tNewK (P : Program) (w : World) : TE := fun _ H Q => ∀ d, H d = none → Q (.ref d) (upd H d (KnO P w d []))
theorem pe_newK {pos : Pos} : PE X (.Dict [] [] pos) (tNewK X.prog X.w) := ⟨fun pins s σ H Q I h => by
  refine wpAny_Dict_empty ⟨.ref s.heap.objs.size, _, I.laid (a := s.heap.objs.size) (o := KnO X.prog X.w s.heap.objs.size []) (t' := s.toks) (fun _ _ q => Heap.get?_push_of_some _ q) (Nat.le_refl _) (knO_ok ?_ (Heap.DictOfH.new s.heap)), rfl, h _ (I.hok.fresh (Nat.le_refl _))⟩
  have := I.big
  simp only [beq_eq_false_iff_ne]
  exact Nat.ne_of_gt this⟩
end
end PD
set_option Elab.async false
set_option linter.all false
set_option maxRecDepth 100000
set_option maxHeartbeats 4000000
/-! PdCls: fields of an instance as targets -/
namespace PD
open PySem PySem.Spec PyProof.Rows L2
def gFld (K : PySem.W.Frag) (to : TE) (f : Str) : TG := fun v σ H Q => to σ H fun o H1 => ∃ a C dx fs, o = .ref a ∧ H1 a = some (.ins C dx fs) ∧ Cls K C ∧ NoAttr K C f ∧ fs.length < 1000 ∧ Q σ (upd H1 a (.ins C dx (putF f v fs)))
section
variable {X : Cx} {o : Expr} {to : TE} {f : Str} {pos : Pos}
theorem pg_fld (ho : PE X o to) (ha : ∀ v, assign (.Attribute o f pos) X.env v = (do
      let ov ← holding [v] (eval o X.env)
      standAt pos.atName
      holding [v, ov] (setAttr ov f v)
      release [v, ov] []) := by intro _; rfl) : PG X (.Attribute o f pos) (gFld X.K to f) := by
  refine ⟨fun pins s σ H v u Q I r h => ?_⟩
  rw [ha]
  refine wpAny_bind (wpAny_holding (thn (ho.run pins s σ H _ I h) fun ov s1 ⟨x, H1, I1, r1, a, C, dx, fs, ex, ea, c, n, l, q1⟩ => ?_))
  subst ex
  obtain rfl : ov = Value.ref a := r1
  refine wpAny_bind (wpAny_standAt (wpAny_bind (wpAny_holding (setattr_ok I1 ea c n l r fun s2 I2 => ?_))))
  exact wpAny_release ⟨σ, _, I2, q1⟩
end
end PD
set_option Elab.async false
set_option linter.all false
set_option maxRecDepth 100000
set_option maxHeartbeats 4000000
/-! K48k: class Asked -/
namespace K48
open PySem PySem.Spec PyProof.Rows L2 PD StX RZ NdefX LamX
abbrev iInit : Stmt := inClass (top 16) 0
abbrev iTells : Stmt := inClass (top 16) 1
abbrev iFill : Stmt := inClass (top 16) 2
abbrev iNext : Stmt := inClass (top 16) 3
/-- an asking: the instance's objects, the function asked, what it answers; H0, G0: the heap at the entry -/
structure Ak where
  C : Addr
  x : Addr
  dx : Addr
  d : Addr
  g : Addr
  f : Addr
  t : V
  ts : List PyData
  fq : List PyData → Bool
  H0 : Hp
  G0 : Hp
  Z : Addr → Prop
  J : Addr → List (List PyData) → Hp → Prop
/-- a thing asked of: a key that can be, alike to the things -/
def Fine (W : Ak) (l : List PyData) : Prop := GoodK l ∧ l.length ≤ 20 ∧ (∀ x ∈ l, x ∈ W.ts) ∧ l = sortD l
section
variable {P : Program} {w : World} {K : PySem.W.Frag} {mg : Str → Option Value} {base : Heap} {W : Ak} {G H G' H' : Hp} {qs gr : List (List PyData)}
structure AkF (P : Program) (w : World) (K : PySem.W.Frag) (mg : Str → Option Value) (base : Heap) (W : Ak) (ka : Nat) : Prop where
  fn : ∀ g qs H, W.J g qs H → IsFn W.f H
  cal : ∃ sp, Cal P w K mg base ka W.f 1 sp ∧ ∀ (g : Addr) (qs : List (List PyData)) (l : List PyData) (p : Addr) (xs : List V) (G H : Hp) (Q : VK), W.J g qs H → qs.length ≤ 2000 → H p = none → (∃ vg, H g = some (.lst vg)) → G g = none → (∀ a, W.Z a → G a = none) → DqAll G xs l → Same G H → Fine W l →
    (∀ H', W.J g (qs ++ [l]) H' → (∀ a o, H a = some o → ¬ W.Z a → H' a = some o) → (∀ a, H' a = none → H a = none) → Q (.bl (W.fq l)) H') → sp [.ref p] (upd H p (.lst xs)) Q fun _ _ _ => False
  st : ∀ g qs H H', W.J g qs H → (∀ a o, noTb H a = some o → a ≠ g → H' a = some o) → (∀ a, W.H0 a ≠ none → H' a = H a) → W.J g qs H'
  zh : ∀ a, W.Z a → W.H0 a ≠ none
abbrev fieldsA (W : Ak) : List (Str × V) := [("ask", .ref W.f), ("things", W.t), ("known", .ref W.d), ("greatest", .ref W.g)]
structure AS (P : Program) (w : World) (W : Ak) (G H : Hp) (qs gr : List (List PyData)) : Prop where
  ins : H W.x = some (.ins W.C W.dx (fieldsA W))
  own : H W.dx = some (.own W.x)
  kn : ∃ xs, H W.d = some (KnO P w W.d xs) ∧ KnE G xs (qs.map fun l => (l, W.fq l)) ∧ xs.length = qs.length
  grt : ∃ vg, H W.g = some (.lst vg) ∧ DqAll G vg (gr.map .list)
  th : Dq G W.t (.list W.ts)
  j : W.J W.g qs H
  gh : Same G H
  gg : Same W.G0 G
  off : ∀ a, a = W.x ∨ a = W.dx ∨ a = W.d ∨ a = W.g → G a = none ∧ W.H0 a = none
  zoff : ∀ a, W.Z a → G a = none
  hh : ∀ a o, W.H0 a = some o → ¬ W.Z a → H a = some o
  dom : ∀ a, H a = none → W.H0 a = none
  fr : ∀ a, G a ≠ none → W.G0 a ≠ none ∨ W.H0 a = none
theorem AS.ext {ka : Nat} (s : AS P w W G H qs gr) (F : AkF P w K mg base W ka) (e : Ext G H G' H') : AS P w W G' H' qs gr := by
  have no : ∀ a, G a = none → H a ≠ none → G' a = none := fun a h1 h2 => by
    cases q : G' a with
    | none => rfl
    | some o =>
      rcases e.fr a (by rw [q]; simp) with z | z
      · exact absurd h1 z
      · exact absurd z h2
  obtain ⟨xs, k1, k2, k3⟩ := s.kn
  obtain ⟨vg, g1, g2⟩ := s.grt
  refine ⟨e.hh _ _ s.ins, e.hh _ _ s.own, ⟨xs, e.hh _ _ k1, k2.up e.gg, k3⟩, ⟨vg, e.hh _ _ g1, g2.up e.gg⟩, s.th.up e.gg, F.st _ _ _ _ s.j (fun a o h _ => e.hh _ _ (noTb_some h).1) fun a ha => ?_, e.gh, s.gg.trans e.gg, fun a ha => ⟨no a (s.off a ha).1 ?_, (s.off a ha).2⟩, fun a ha => no a (s.zoff a ha) fun z => F.zh a ha (s.dom a z),
    fun a o h1 h2 => e.hh _ _ (s.hh a o h1 h2), fun a h => s.dom a (e.hh.free h), fun a h => (e.fr a h).elim (s.fr a) fun z => .inr (s.dom a z)⟩
  · cases q : H a with
    | none => exact absurd (s.dom a q) ha
    | some o => exact e.hh _ _ q
  · rcases ha with rfl | rfl | rfl | rfl
    · rw [s.ins]; simp
    · rw [s.own]; simp
    · rw [k1]; simp
    · rw [g1]; simp
/-- the class's facts -/
structure AskC (P : Program) (w : World) (K : PySem.W.Frag) (mg : Str → Option Value) (base : Heap) (C : Addr) : Prop where
  cls : Cls K C
  n1 : NoAttr K C "ask"
  n2 : NoAttr K C "things"
  n3 : NoAttr K C "known"
  n4 : NoAttr K C "greatest"
abbrev nTells : List Str := ["self", "some", "mark"]
theorem scTells : FnScope nTells ["self", "some"] (defScope iTells) := ⟨rfl, rfl, rfl, by decide +kernel, rfl, by decide +kernel, by decide +kernel⟩
/-- asked so far, l asked too -/
def askedAlso (qs : List (List PyData)) (l : List PyData) : List (List PyData) := if (knAt (qs.map fun l => (l, true)) l).isSome then qs else qs ++ [l]
theorem knAt_some (fq : List PyData → Bool) : ∀ (qs : List (List PyData)) (l : List PyData), (∀ q ∈ qs, GoodK q) → GoodK l → knAt (qs.map fun l => (l, fq l)) l = if (knAt (qs.map fun l => (l, true)) l).isSome then some (fq l) else none
  | [], l, _, _ => rfl
  | q :: qs, l, h, hl => by
    simp only [List.map_cons, knAt]
    by_cases e : keyOf (.tuple q) = keyOf (.tuple l)
    · have := keyOf_inj _ _ (by simpa [plainK] using (h q (List.mem_cons_self ..)).1) (by simpa [plainK] using hl.1) e
      simp only [PyData.tuple.injEq] at this
      subst this
      simp
    · rw [if_neg e, if_neg e]
      exact knAt_some fq qs l (fun q hq => h q (List.mem_cons_of_mem _ hq)) hl
def spTells (P : Program) (w : World) (K : PySem.W.Frag) (mg : Str → Option Value) (base : Heap) (ka : Nat) : Sp := fun vs H Q _ => ∃ (W : Ak) (G : Hp) (v : V) (l : List PyData) (qs gr : List (List PyData)), vs = [.ref W.x, v] ∧ AskC P w K mg base W.C ∧ AkF P w K mg base W ka ∧ AS P w W G H qs gr ∧ Dq G v (.list l) ∧ Fine W l ∧ (∀ q ∈ qs, GoodK q) ∧ qs.length ≤ 2000 ∧
  ∀ G' H', AS P w W G' H' (askedAlso qs l) gr → Same G G' → Q (.bl (W.fq l)) H'
theorem pass_no {X : Cx} : Passes (L2.CX X.prog X.w) X (fun _ _ _ => False) := fun _ _ _ _ _ _ _ c => (cx_no c).elim
theorem knE_good {H : Hp} : ∀ {xs : List (NestedKey × Addr × Value)} {ks : Kn}, KnE H xs ks → ∀ k ∈ ks, GoodK k.1
  | [], [], _, k, hk => by cases hk
  | _ :: _, _ :: _, ⟨_, _, c, _, r⟩, k, hk => (List.mem_cons.mp hk).elim (fun z => z ▸ c) (knE_good r k)
  | [], _ :: _, h, _, _ => h.elim
  | _ :: _, [], h, _, _ => h.elim
theorem knAt_app {l : List PyData} {b : Bool} : ∀ {ks : Kn}, knAt ks l = none → knAt (ks ++ [(l, b)]) l = some b
  | [], _ => by simp [knAt]
  | k :: ks, h => by
    simp only [List.cons_append, knAt] at h ⊢
    split at h
    · cases h
    · rename_i hne
      rw [if_neg hne]
      exact knAt_app h
theorem ok_tells {ka : Nat} (m1 : mg "tuple" = none) (m2 : mg "list" = none) : ∀ f fd, Fun K "tells" "Asked.tells" iTells f fd → FnOk P w K mg base CX0 (ka + 1) f fd ["self", "some"] (spTells P w K mg base ka) := fun f fd F => by
  refine F.ok (N := nTells) (k := ka) scTells (by rintro vs H Q E ⟨W, G, v, l, qs, gr, rfl, _⟩; rfl) fun cdv A outer s H vs Q E hr hsp => ?_
  obtain ⟨W, G, v, l, qs, gr, rfl, C, AF, st, dv, fine, hq, hql, k⟩ := hsp
  have hu := hr.u65
  refine ⟨_, pss_cons (ps_set (i := 2) scTells.nd rfl (.inl rfl) (xe_tuple (K := K) m1 (pv 1)))
    (pss_cons (ps_if (pt_cmpR (op_notInK hu) (pv 2) (pe_fld (pv 0) rfl) (by rfl)) (pss_one (ps_asg (pe_callF (k := ka) (pv 0) hr pass_no (pa_cons (xe_list (K := K) m2 (pv 1)) pa_nil)) (pg_sub (pe_fld (pv 0) rfl) (pv 2) (set_K hu)))) pss_nil)
    (pss_one (ps_ret (pe_getK hu (pe_fld (pv 0) rfl) (pv 2) (fun _ _ => rfl))))), ?_⟩
  refine tSet_use st.gh (PR_CB RR_tupleL (PRA_one (PV dv))) fun vm G1 H1 e1 dm => ?_
  have s1 := st.ext AF e1
  have dv1 := dv.up e1.gg
  obtain ⟨am, rfl⟩ : ∃ am, vm = .ref am := by cases dm with | tup h _ => exact ⟨_, rfl⟩
  obtain ⟨xs, x1, x2, x3⟩ := s1.kn
  have dk : DKey P w H1 W.d am l xs (qs.map fun l => (l, W.fq l)) := ⟨x1, dm.up s1.gh, fine.1, x2.up s1.gh, by omega⟩
  refine ⟨_, rfl, _, rfl, W.x, W.C, W.dx, fieldsA W, .ref W.d, rfl, s1.ins, C.cls, C.n3, rfl, am, W.d, l, xs, _, rfl, rfl, dk, _, rfl, ?_⟩
  have hka := knAt_some W.fq qs l hq fine.1
  cases hb : (knAt (qs.map fun l => (l, true)) l).isSome with
  | true =>
    rw [hb, if_pos rfl] at hka
    rw [hka]
    refine iteF (nxt ⟨_, rfl, W.x, W.C, W.dx, fieldsA W, .ref W.d, rfl, s1.ins, C.cls, C.n3, rfl, _, rfl, am, W.d, l, xs, _, W.fq l, rfl, rfl, dk, hka, ?_⟩)
    refine k G1 H1 ?_ e1.gg
    unfold askedAlso
    rw [hb]
    exact s1
  | false =>
    rw [hb] at hka
    rw [hka]
    have hka' : knAt (qs.map fun l => (l, W.fq l)) l = none := by simpa using hka
    cases dv1 with
    | @lst la vl _ ha hall =>
      refine iteT ⟨_, rfl, W.x, W.C, W.dx, fieldsA W, W.f, rfl, s1.ins, C.cls, C.n1, rfl, AF.fn _ _ _ s1.j, ⟨_, rfl, la, vl, rfl, .inl (SqL.of (s1.gh _ _ ha)), fun p hp => ?_⟩⟩
      have sp2 := same_new (o := .lst vl) hp
      have j2 : W.J W.g qs (upd H1 p (.lst vl)) := AF.st _ _ _ _ s1.j (fun a o h _ => sp2 _ _ (noTb_some h).1) fun a hna => by
        rw [upd_ne fun z => hna (by rw [z]; exact s1.dom p hp)]
      have hgo := s1.off _ (.inr (.inr (.inr rfl)))
      obtain ⟨sp, cal, hsp⟩ := AF.cal
      refine ⟨AF.fn _ _ _ j2, sp, cal, hsp W.g qs l p vl G1 _ _ s1.j hql hp (let ⟨vg, g1, _⟩ := s1.grt; ⟨vg, g1⟩) hgo.1 s1.zoff hall s1.gh fine fun H3 j3 f1 f2 => ?_⟩
      have gp : G1 p = none := s1.gh.free hp
      have nz : ∀ a, W.H0 a = none → ¬ W.Z a := fun a h z => AF.zh a z h
      have kee : ∀ a o, H1 a = some o → W.H0 a = none → H3 a = some o := fun a o h1 h2 => f1 a o h1 (nz a h2)
      have i3 := kee _ _ s1.ins (s1.off _ (.inl rfl)).2
      have x3' := kee _ _ x1 (s1.off _ (.inr (.inr (.inl rfl)))).2
      have gh3 : Same G1 H3 := fun a o e => f1 a o (s1.gh _ _ e) (fun z => by rw [s1.zoff a z] at e; cases e)
      refine ⟨_, rfl, W.x, W.C, W.dx, fieldsA W, .ref W.d, rfl, i3, C.cls, C.n3, rfl, _, rfl, am, W.d, l, xs, _, W.fq l, rfl, rfl, rfl, ⟨x3', dm.up gh3, fine.1, x2.up gh3, by omega⟩, hka', ?_⟩
      have hask : askedAlso qs l = qs ++ [l] := by unfold askedAlso; rw [hb]; rfl
      have ks' : (qs ++ [l]).map (fun l => (l, W.fq l)) = (qs.map fun l => (l, W.fq l)) ++ [(l, W.fq l)] := by rw [List.map_append]; rfl
      have hd0 : W.H0 W.d = none := (s1.off _ (.inr (.inr (.inl rfl)))).2
      have gd : G1 W.d = none := (s1.off _ (.inr (.inr (.inl rfl)))).1
      obtain ⟨vg, v1, v2⟩ := s1.grt
      have o3 := kee _ _ s1.own (s1.off _ (.inr (.inl rfl))).2
      have v3 := kee _ _ v1 (s1.off _ (.inr (.inr (.inr rfl)))).2
      have ne1 : W.x ≠ W.d := ne_of i3 x3' (by intro z; unfold KnO at z; cases z)
      have ne2 : W.dx ≠ W.d := ne_of o3 x3' (by intro z; unfold KnO at z; cases z)
      have ne3 : W.g ≠ W.d := ne_of v3 x3' (by intro z; unfold KnO at z; cases z)
      have kn' : KnE G1 (xs ++ [(keyOf (.tuple l), am, .bool (W.fq l))]) ((qs ++ [l]).map fun l => (l, W.fq l)) := by rw [ks']; exact x2.snoc ⟨rfl, dm, fine.1, rfl⟩
      have fin : AS P w W G1 (upd H3 W.d (KnO P w W.d (xs ++ [(keyOf (.tuple l), am, .bool (W.fq l))]))) (qs ++ [l]) gr := by
        refine ⟨by rw [upd_ne ne1]; exact i3, by rw [upd_ne ne2]; exact o3, ⟨_, upd_same, kn', by simp [x3]⟩, ⟨vg, by rw [upd_ne ne3]; exact v3, v2⟩, s1.th, AF.st _ _ _ _ j3 (fun a o h _ => by
          have q := (noTb_some h).1
          rw [upd_ne fun z => by
            rw [z] at h
            unfold noTb at h
            rw [x3'] at h
            unfold KnO at h
            cases h]
          exact q) (fun a ha => by rw [upd_ne fun z => ha (by rw [z]; exact hd0)]), fun a o e => ?_, s1.gg, s1.off, s1.zoff, fun a o h1 h2 => ?_, fun a h => ?_, s1.fr⟩
        · rw [upd_ne (ne_of_none e gd)]; exact gh3 a o e
        · rw [upd_ne (ne_of_none h1 hd0)]
          exact f1 a o (s1.hh a o h1 h2) h2
        · exact s1.dom a (f2 a (NdefX.upd_none h))
      refine ⟨_, rfl, W.x, W.C, W.dx, fieldsA W, .ref W.d, rfl, fin.ins, C.cls, C.n3, rfl, _, rfl, am, W.d, l, _, _, W.fq l, rfl, rfl, ⟨upd_same, dm.up fin.gh, fine.1, kn'.up fin.gh, by simp; omega⟩, ?_, k G1 _ (by rw [hask]; exact fin) e1.gg⟩
      rw [ks', knAt_app hka']
end
end K48
set_option Elab.async false
set_option linter.all false
set_option maxRecDepth 100000
set_option maxHeartbeats 4000000
/-! K48l: Asked.fill -/
namespace K48
open PySem PySem.Spec PyProof.Rows L2 PD StX RZ NdefX LamX
section
variable {P : Program} {w : World} {K : PySem.W.Frag} {mg : Str → Option Value} {base : Heap} {W : Ak} {G H G' H' : Hp} {qs gr : List (List PyData)}
/-! ### the order -/
theorem leD_total (a b : PyData) : (leD a b || leD b a) = true := by
  unfold leD
  cases h : PySem.W.dataLt b a with
  | false => rfl
  | true =>
    cases h2 : PySem.W.dataLt a b with
    | false => rfl
    | true =>
      have := PyProof.Rows.lex_trans (O := PyProof.Rows.itemOrd) _ _ _ h h2
      rw [PyProof.Rows.lex_irrefl] at this
      cases this
theorem leD_trans (a b c : PyData) (h1 : leD a b = true) (h2 : leD b c = true) : leD a c = true := by
  unfold leD at *
  cases h : PySem.W.dataLt c a with
  | false => rfl
  | true =>
    rcases PyProof.Rows.lex_negTrans (O := PyProof.Rows.itemOrd) _ (PySem.W.keyToks b) _ h with q | q
    · have q : PySem.W.dataLt c b = true := q
      rw [q] at h2; cases h2
    · have q : PySem.W.dataLt b a = true := q
      rw [q] at h1; cases h1
theorem sortD_idem (ds : List PyData) : sortD (sortD ds) = sortD ds := by
  unfold sortD
  exact List.mergeSort_of_pairwise (List.pairwise_mergeSort leD_trans leD_total ds)
/-! ### a field's value, read while a part is frozen -/
theorem ext_unfld {G H G' H' : Hp} {x : Addr} {o : HO} (hx : G x = none) (ho : ∀ xs, o ≠ .lst xs ∧ o ≠ .tup xs) (hk : ∀ ks, o ≠ .dK ks) (hs : Same G H) (e : Ext (upd G x o) H G' H') : Ext G H (joinG G G') H' := by
  refine ⟨e.hh, joinG_same, fun a u q => ?_, fun a q => ?_⟩
  · unfold joinG at q
    cases z : G a with
    | none => rw [z] at q; exact e.gh _ _ (noTb_some q).1
    | some v => rw [z] at q; cases q; exact e.hh _ _ (hs _ _ z)
  · unfold joinG at q
    cases z : G a with
    | some v => exact .inl (by simp)
    | none =>
      rw [z] at q
      cases y : noTb G' a with
      | none => exact absurd y q
      | some v =>
        have hv := (noTb_some y).1
        by_cases hax : a = x
        · subst hax
          have := e.gg a o upd_same
          rw [hv] at this
          cases this
          unfold noTb at y
          rw [hv] at y
          cases o with
          | lst xs => exact absurd rfl (ho xs).1
          | tup xs => exact absurd rfl (ho xs).2
          | dK ks => exact absurd rfl (hk ks)
          | _ => cases y
        · rcases e.fr a (by rw [hv]; simp) with p | p
          · rw [upd_ne hax] at p; exact absurd z p
          · exact .inr p
theorem PR_fld {σ : L2.St} {G : Hp} {i : Nat} {a C dx : Addr} {fs : List (Str × V)} {f : Str} {v : V} {d : PyData} (hσ : σ[i]? = some (some (.ref a))) (hi : G a = some (.ins C dx fs)) (c : Cls K C) (n : NoAttr K C f) (l : fs.lookup f = some v) (dv : Dq G v d) : PR (tFld K (tVar i) f) σ G d := fun H Q hs k =>
  ⟨_, hσ, a, C, dx, fs, v, rfl, hs _ _ hi, c, n, l, k v G H (.refl hs) dv⟩
theorem tForP_use {t : TE} {g : TG} {tb : TS} {De : Ends} {σ : L2.St} {G H : Hp} {d : PyData} (hs : Same G H) (h : PR t σ G d)
    (k : ∀ v G' H', Ext G H G' H' → Dq G' v d → ∃ a, v = .ref a ∧ (∃ xs, SqL K H' a xs) ∧ ∃ V : Nat → Nat → L2.St → Hp → Prop, (∃ m, V 0 m σ H') ∧ ∀ i m σ H, V i m σ H → ((Itl K a).stop i H ∧ De.nx σ H) ∨ ((Itl K a).go i H ∧ ∃ N : L2.St → Hp → Prop, (∀ σ' H', N σ' H' → ∃ m', m' < m ∧ V (i + 1) m' σ' H') ∧
      ∀ x H', (Itl K a).yld i H x H' → g x σ H' fun σ2 H2 => tb { De with nx := N, ct := N, bk := De.nx } σ2 H2)) : tFor (iList K t) g tb De σ H := h H _ hs k
/-! ### fill -/
def fillStep (fq : List PyData → Bool) (st : List PyData × List (List PyData)) (t : PyData) : List PyData × List (List PyData) := (if fq (sortD (st.1 ++ [t])) then st.1 else sortD (st.1 ++ [t]), askedAlso st.2 (sortD (st.1 ++ [t])))
def restD (ts l : List PyData) : List PyData := ts.filter fun t => !hasD l t
def fillD (fq : List PyData → Bool) (ts l : List PyData) (qs : List (List PyData)) : List PyData × List (List PyData) := (restD ts l).foldl (fillStep fq) (l, qs)
/-- the things asked of -/
def FineT (ts : List PyData) : Prop := (∀ x ∈ ts, plainK x = true ∧ x.depth ≤ 3) ∧ Kin ts ∧ ts.length ≤ 10
theorem plainKs_of : ∀ {l : List PyData}, (∀ x ∈ l, plainK x = true) → plainKs l = true
  | [], _ => rfl
  | x :: l, h => by rw [plainKs, h x (List.mem_cons_self ..), plainKs_of fun y hy => h y (List.mem_cons_of_mem _ hy)]; rfl
theorem depthAll_of {n : Nat} : ∀ {l : List PyData}, (∀ x ∈ l, x.depth ≤ n) → PyData.depthAll l ≤ n
  | [], _ => by simp [PyData.depthAll]
  | x :: l, h => by
    have h1 := h x (List.mem_cons_self ..)
    have h2 := depthAll_of fun y hy => h y (List.mem_cons_of_mem _ hy)
    simp only [PyData.depthAll]
    omega
theorem FineT.good {ts l : List PyData} (h : FineT ts) (hl : ∀ x ∈ l, x ∈ ts) : GoodK l := by
  refine ⟨plainKs_of fun x hx => (h.1 x (hl x hx)).1, ?_⟩
  have := depthAll_of (n := 3) fun x hx => (h.1 x (hl x hx)).2
  simp only [PyData.depth]
  omega
theorem askedAlso_len (qs : List (List PyData)) (l : List PyData) : (askedAlso qs l).length ≤ qs.length + 1 := by
  unfold askedAlso; split <;> simp
theorem askedAlso_mem {qs : List (List PyData)} {l q : List PyData} (h : q ∈ askedAlso qs l) : q ∈ qs ∨ q = l := by
  unfold askedAlso at h
  split at h
  · exact .inl h
  · rcases List.mem_append.mp h with h | h
    · exact .inl h
    · exact .inr (by simpa using h)
/-- what fill keeps -/
def FillI (ts l : List PyData) (qs : List (List PyData)) (i : Nat) (st : List PyData × List (List PyData)) : Prop := (∀ x ∈ st.1, x ∈ ts) ∧ st.1.length ≤ l.length + i ∧ st.2.length ≤ qs.length + i ∧ (∀ q ∈ st.2, GoodK q)
theorem fillI_step {ts l : List PyData} {qs : List (List PyData)} {i : Nat} {st : List PyData × List (List PyData)} {fq : List PyData → Bool} {t : PyData} (h : FillI ts l qs i st) (hT : FineT ts) (ht : t ∈ ts) : FillI ts l qs (i + 1) (fillStep fq st t) := by
  obtain ⟨h1, h2, h3, h4⟩ := h
  have hm : ∀ x ∈ sortD (st.1 ++ [t]), x ∈ ts := fun x hx => by
    rcases List.mem_append.mp (sortD_mem.mp hx) with y | y
    · exact h1 x y
    · simp at y; subst y; exact ht
  have hl : (sortD (st.1 ++ [t])).length = st.1.length + 1 := by rw [sortD_len]; simp
  have := askedAlso_len st.2 (sortD (st.1 ++ [t]))
  refine ⟨?_, ?_, by show (askedAlso _ _).length ≤ _; omega, fun q hq => (askedAlso_mem hq).elim (h4 q) fun z => z ▸ hT.good hm⟩
  · unfold fillStep; split
    · exact h1
    · exact hm
  · unfold fillStep
    show (if _ then _ else _ : List PyData).length ≤ _
    split <;> omega
abbrev nFill : List Str := ["self", "some", "here", "thing", "more", "one"]
theorem scFill : FnScope nFill ["self", "some"] (defScope iFill) := ⟨rfl, rfl, rfl, by decide +kernel, rfl, by decide +kernel, by decide +kernel⟩
/-- a method of the class, by its promise -/
structure MethOk (P : Program) (w : World) (K : PySem.W.Frag) (mg : Str → Option Value) (base : Heap) (C : Addr) (m : Str) (k n : Nat) (sp : Sp) : Prop where
  ex : ∃ (f : Addr) (fd : FuncData) (ps : List Str), Meth K C m f ∧ ps.length = n ∧ Binds K fd ps [] ∧ FnOk P w K mg base CX0 k f fd ps sp
def spFill (P : Program) (w : World) (K : PySem.W.Frag) (mg : Str → Option Value) (base : Heap) (C : Addr) (ka : Nat) : Sp := fun vs H Q _ => ∃ (W : Ak) (G : Hp) (v : V) (l : List PyData) (qs gr : List (List PyData)), vs = [.ref W.x, v] ∧ W.C = C ∧ AskC P w K mg base W.C ∧ AkF P w K mg base W ka ∧ AS P w W G H qs gr ∧ Dq G v (.list l) ∧ FineT W.ts ∧ (∀ x ∈ l, x ∈ W.ts) ∧ l.length ≤ 10 ∧ (∀ q ∈ qs, GoodK q) ∧ qs.length ≤ 1900 ∧ gr.length ≤ 2000 ∧
  ∀ G' H', AS P w W G' H' (fillD W.fq W.ts l qs).2 (gr ++ [(fillD W.fq W.ts l qs).1]) → Same G G' → Q .non H'
theorem ok_fill {ka : Nat} {C : Addr} (MT : MethOk P w K mg base C "tells" (ka + 1) 2 (spTells P w K mg base ka)) (m1 : mg "sorted" = none) : ∀ f fd, Fun K "fill" "Asked.fill" iFill f fd → FnOk P w K mg base CX0 (ka + 2) f fd ["self", "some"] (spFill P w K mg base C ka) := fun f fd F => by
  refine F.ok (N := nFill) (k := ka + 1) scFill (by rintro vs H Q E ⟨W, G, v, l, qs, gr, rfl, _⟩; rfl) fun cdv A outer s H vs Q E hr hsp => ?_
  obtain ⟨W, G, v, l, qs, gr, rfl, rfl, C, AF, st, dv, hT, hl1, hl2, hq, hql, hgl, k⟩ := hsp
  have hu := hr.u65
  obtain ⟨fT, fdT, psT, t1, t2, t3, t4⟩ := MT.ex
  refine ⟨_, pss_cons (ps_set (i := 2) scFill.nd rfl (.inl rfl) (pv 1))
    (pss_cons (ps_for PassesOwn.never rfl (pi_list (xe_lc1 nFill (defScope iFill) 5 (pi_list (pe_fld (pv 0) rfl)) (by decide +kernel) scFill.nd (.inr rfl) (fun _ _ _ _ _ => pts_one (xt_notin (K := K) hu (pv 5) (pv 1))) (fun _ _ _ _ _ => pv 5))) (pg_name (i := 3) scFill.nd rfl (.inl rfl))
      (pss_cons (ps_set (i := 4) scFill.nd rfl (.inl rfl) (xe_sorted (K := K) m1 hu (pe_lst (xa_star (K := K) (pv 2) (pa_cons (pv 3) pa_nil)))))
      (pss_one (ps_set (i := 2) scFill.nd rfl (.inl rfl) (pe_ifExp (pt_val (pe_meth (pv 0) C.cls t1 t4 hr t3 .nil pass0 (pa_cons (pv 4) pa_nil))) (pv 2) (pv 4))))))
    (pss_one (xs_append (pe_fld (pv 0) rfl) (pv 2)))), ?_⟩
  have hsz : sizeLine = 16777216 := sizeLine_eq
  have hx0 : G W.x = none := (st.off _ (.inl rfl)).1
  have hst : Same (upd G W.x (.ins W.C W.dx (fieldsA W))) H := fun a o e => by
    by_cases z : a = W.x
    · subst z; rw [upd_same] at e; cases e; exact st.ins
    · rw [upd_ne z] at e; exact st.gh _ _ e
  have up0 := same_new (o := .ins W.C W.dx (fieldsA W)) hx0
  have hts : ∀ x ∈ W.ts, Sh 3 x := hT.2.1.shL
  have hll : ShL 10 l := fun x hx => (hts x (hl1 x hx)).mono (by decide)
  have e0 : restD W.ts l = W.ts.filter (fun t => !hasD l t) := rfl
  have hw : WR (iList K (tFld K (tVar 0) "things")) [some (.ref W.x), some v, some v, none, none, none] (upd G W.x (.ins W.C W.dx (fieldsA W))) (W.ts.map id) := by
    rw [List.map_id]
    exact WR_list (PR_fld rfl upd_same C.cls C.n2 rfl (st.th.up up0))
  have hpr : PR (tLc (iList K (tFld K (tVar 0) "things")) (gName 5) (tTest (tOp (rNotInD K) (tVar 5) (tVar 1))) (tVar 5) [5]) [some (.ref W.x), some v, some v, none, none, none] (upd G W.x (.ins W.C W.dx (fieldsA W))) (.list ((W.ts.filter fun t => !hasD l t).map id)) :=
    PR_lc1 (bs := W.ts) (enc := id) (f := id) (p := fun t => !hasD l t) hw (fun _ => rfl)
      (fun G1 b u h1 hb du => ⟨TR_test (PR_op (RR2_notin ((hts b hb).shaped (by decide)) (hll.list.shaped (by decide))) (PR_var (i := 5) rfl du) (PR_var (i := 1) rfl ((dv.up up0).up h1))), fun _ => PR_var (i := 5) rfl du⟩) (by have := hT.2.2; omega)
  rw [List.map_id, ← e0] at hpr
  refine ⟨_, rfl, ?_⟩
  refine tForP_use hst hpr fun vr G1 H1 e1 dr => ?_
  have dr := joinG_dq (up0.trans e1.gg) dr
  have e1 := ext_unfld (o := .ins W.C W.dx (fieldsA W)) hx0 (fun xs => ⟨(fun z => nomatch z), fun z => nomatch z⟩) (fun ks z => nomatch z) st.gh e1
  have s1 := st.ext AF e1
  generalize joinG G G1 = G1 at dr e1 s1
  have hR : ∀ t ∈ restD W.ts l, t ∈ W.ts := fun t ht => (List.mem_filter.mp ht).1
  have hRl : (restD W.ts l).length ≤ 10 := Nat.le_trans (List.length_filter_le _ _) hT.2.2
  cases dr with
  | @lst ar vrs _ har hall =>
    refine ⟨ar, rfl, ⟨vrs, SqL.of (e1.gh _ _ har)⟩, ?_⟩
    refine for_nm (DW_list har hall) (fun i σ H2 => ∃ (G2 : Hp) (vh : V) (x3 x4 : Option V), σ = [some (.ref W.x), some v, some vh, x3, x4, none] ∧ AS P w W G2 H2 (((restD W.ts l).take i).foldl (fillStep W.fq) (l, qs)).2 gr ∧ Same G1 G2 ∧ Dq G2 vh (.list (((restD W.ts l).take i).foldl (fillStep W.fq) (l, qs)).1) ∧ FillI W.ts l qs i (((restD W.ts l).take i).foldl (fillStep W.fq) (l, qs))) ?_ ?_ ?_ ?_
    · exact ⟨G1, v, none, none, rfl, s1, Same.refl _, dv.up e1.gg, hl1, Nat.le_refl _, Nat.le_refl _, hq⟩
    · rintro i σ H2 _ ⟨G2, vh, x3, x4, rfl, s2, s3, _⟩
      exact s3.trans s2.gh
    · rintro i t y σ H2 H3 q1 ⟨G2, vh, x3, x4, rfl, s2, s3, dh, fi⟩ q2 q3
      obtain ⟨G3, e3, dy⟩ := q3 G2 s3 s2.gh
      have s4 := s2.ext AF e3
      have dh3 := dh.up e3.gg
      have hi : i < (restD W.ts l).length := (List.getElem?_eq_some_iff.mp q1).1
      have ht : t ∈ W.ts := hR t (List.mem_of_getElem? q1)
      have hfold := foldl_take (fillStep W.fq) (l, qs) (restD W.ts l) i t q1
      have fi2 := fillI_step (fq := W.fq) fi hT ht
      generalize ((restD W.ts l).take i).foldl (fillStep W.fq) (l, qs) = S at s4 dh3 fi fi2 hfold
      obtain ⟨f1, f2, f3, f4⟩ := fi
      have hm : ∀ x ∈ S.1 ++ [t], x ∈ W.ts := fun x hx => by
        rcases List.mem_append.mp hx with z | z
        · exact f1 x z
        · simp at z; subst z; exact ht
      have hmS : ∀ x ∈ sortD (S.1 ++ [t]), x ∈ W.ts := fun x hx => hm x (sortD_mem.mp hx)
      have hlen : (S.1 ++ [t]).length ≤ 20 := by rw [List.length_append]; simp; omega
      refine tSet_use s4.gh (d := .list (sortD (S.1 ++ [t]))) (PR_CB (RR_sorted (hT.2.1.sub hm).sortOk) (PRA_one (PR_lst (PRA_star (PR_var (i := 2) rfl dh3) (PRA_one (PR_var (i := 3) rfl dy))) (by omega)))) fun vm G5 H5 e5 dm => ?_
      have s5 := s4.ext AF e5
      have fine : Fine W (sortD (S.1 ++ [t])) := ⟨hT.good hmS, by rw [sortD_len]; exact hlen, hmS, (sortD_idem _).symm⟩
      refine ⟨_, rfl, W.x, W.dx, fieldsA W, rfl, s5.ins, rfl, ⟨_, rfl, W, G5, vm, sortD (S.1 ++ [t]), S.2, gr, rfl, C, AF, s5, dm, fine, f4, by omega, fun G6 H6 s6 sg6 => ⟨_, rfl, ?_⟩⟩⟩
      have e6 : askedAlso S.2 (sortD (S.1 ++ [t])) = (fillStep W.fq S t).2 := rfl
      rw [e6] at s6
      cases hb : W.fq (sortD (S.1 ++ [t])) with
      | true =>
        have e7 : (fillStep W.fq S t).1 = S.1 := by unfold fillStep; rw [hb]; rfl
        refine iteT ⟨_, rfl, G6, vh, some y, some vm, rfl, by rw [hfold]; exact s6, ((s3.trans e3.gg).trans e5.gg).trans sg6, ?_, by rw [hfold]; exact fi2⟩
        rw [hfold, e7]
        exact (dh3.up e5.gg).up sg6
      | false =>
        have e7 : (fillStep W.fq S t).1 = sortD (S.1 ++ [t]) := by unfold fillStep; rw [hb]; rfl
        refine iteF ⟨_, rfl, G6, vm, some y, some vm, rfl, by rw [hfold]; exact s6, ((s3.trans e3.gg).trans e5.gg).trans sg6, ?_, by rw [hfold]; exact fi2⟩
        rw [hfold, e7]
        exact dm.up sg6
    · rintro σ H2 ⟨G2, vh, x3, x4, rfl, s2, s3, dh, fi⟩
      rw [List.take_length] at s2 dh
      obtain ⟨vg, g1, g2⟩ := s2.grt
      have vgl := g2.len
      rw [List.length_map] at vgl
      refine ⟨_, rfl, W.x, W.C, W.dx, fieldsA W, .ref W.g, rfl, s2.ins, C.cls, C.n4, rfl, .inl ⟨rfl, vg, SqL.of g1⟩, _, rfl, W.g, vg, vh, rfl, rfl, g1, by omega, k G2 _ ?_ (e1.gg.trans s3)⟩
      have hg0 := s2.off _ (.inr (.inr (.inr rfl)))
      obtain ⟨xs, x1, x2, x5⟩ := s2.kn
      have n1 : W.x ≠ W.g := ne_of s2.ins g1 (by intro z; cases z)
      have n2 : W.dx ≠ W.g := ne_of s2.own g1 (by intro z; cases z)
      have n3 : W.d ≠ W.g := ne_of x1 g1 (by intro z; unfold KnO at z; cases z)
      refine ⟨by rw [upd_ne n1]; exact s2.ins, by rw [upd_ne n2]; exact s2.own, ⟨xs, by rw [upd_ne n3]; exact x1, x2, x5⟩, ⟨vg ++ [vh], upd_same, by rw [List.map_append]; exact g2.snoc dh⟩, s2.th, AF.st _ _ _ _ s2.j (fun a o h n => by rw [upd_ne n]; exact (noTb_some h).1) (fun a ha => by rw [upd_ne fun z => ha (by rw [z]; exact hg0.2)]), fun a o e => ?_, s2.gg, s2.off, s2.zoff, fun a o h1 h2 => ?_, fun a h => s2.dom a (NdefX.upd_none h), s2.fr⟩
      · rw [upd_ne (ne_of_none e hg0.1)]; exact s2.gh _ _ e
      · rw [upd_ne (ne_of_none h1 hg0.2)]; exact s2.hh a o h1 h2
end
end K48
set_option Elab.async false
set_option linter.all false
set_option maxRecDepth 100000
set_option maxHeartbeats 4000000
/-! K48m: Asked.next_meeting -/
namespace K48
open PySem PySem.Spec PyProof.Rows L2 PD StX RZ NdefX LamX
section
variable {P : Program} {w : World} {K : PySem.W.Frag} {mg : Str → Option Value} {base : Heap} {W : Ak} {G H G' H' : Hp} {qs gr : List (List PyData)}
theorem ext_unfld2 {Gt G H G' H' : Hp} (hs : Same G H) (hG : Same G Gt) (ho : ∀ a o, Gt a = some o → G a = some o ∨ (∀ xs, o ≠ .tup xs ∧ o ≠ .dK []) ∧ (∀ ks, o ≠ .dK ks) ∧ H a ≠ none) (e : Ext Gt H G' H') : Ext G H (joinG G (cut H G')) H' := by
  refine ⟨e.hh, joinG_same, fun a u q => ?_, fun a q => ?_⟩
  · unfold joinG at q
    cases z : G a with
    | none => rw [z] at q; exact e.gh _ _ (cut_sub _ _ (noTb_some q).1)
    | some v => rw [z] at q; cases q; exact e.hh _ _ (hs _ _ z)
  · unfold joinG at q
    cases z : G a with
    | some v => exact .inl (by simp)
    | none =>
      rw [z] at q
      cases y : noTb (cut H G') a with
      | none => exact absurd y q
      | some v =>
        have hv := (noTb_some y).1
        by_cases hh : H a = none
        · exact .inr hh
        · have g' := cut_sub _ _ hv
          rcases e.fr a (by rw [g']; simp) with p | p
          · cases w : Gt a with
            | none => exact absurd w p
            | some o =>
              have ov := e.gg a o w
              rw [g'] at ov
              cases ov
              rcases ho a _ w with r | ⟨r1, r2, r3⟩
              · rw [z] at r; cases r
              · cases v with
                | lst xs => exact absurd (cut_new hv) hh
                | tup xs => exact absurd rfl (r1 xs).1
                | dK ks => exact absurd rfl (r2 ks)
                | _ =>
                  unfold noTb at y
                  rw [hv] at y
                  cases y
          · exact absurd p hh
theorem joinG_cut {Gt G H G' : Hp} {v : V} {d : PyData} (hG : Same G G') (h : Dq (cut H G') v d) : Dq (joinG G (cut H G')) v d := by
  have k : ∀ a o, noTb (cut H G') a = some o → joinG G (cut H G') a = some o := fun a o q => by
    unfold joinG
    cases z : G a with
    | none => exact q
    | some u =>
      have q2 := cut_sub _ _ (noTb_some q).1
      rw [hG _ _ z] at q2
      exact q2
  exact h.noTb.up k
/-- the first that is not answered True, and what was asked on the way -/
def nextLoop (fq : List PyData → Bool) : List (List PyData) → List (List PyData) → Option (List PyData) × List (List PyData)
  | [], qs => (none, qs)
  | one :: r, qs => if fq one then nextLoop fq r (askedAlso qs one) else (some one, askedAlso qs one)
def nextD (fq : List PyData → Bool) (ts : List PyData) (qs gr : List (List PyData)) : Option (List PyData) × List (List PyData) := nextLoop fq (meetD (gr.map (restD ts))) qs
abbrev nNext : List Str := ["self", "found", "thing", "one"]
theorem scNext : FnScope nNext ["self"] (defScope iNext) := ⟨rfl, rfl, rfl, by decide +kernel, rfl, by decide +kernel, by decide +kernel⟩
/-- what next_meeting asks of the lists found so far -/
structure NextOk (ts : List PyData) (qs gr : List (List PyData)) : Prop where
  sub : ∀ g ∈ gr, (∀ x ∈ g, x ∈ ts) ∧ g.length ≤ 20
  num : gr.length ≤ 900
  few : ∀ k, (meetD ((gr.map (restD ts)).take k)).length ≤ 800
  fnd : ∀ l ∈ meetD (gr.map (restD ts)), l.length ≤ 10 ∧ l = sortD l
  gq : ∀ q ∈ qs, GoodK q
  qn : qs.length ≤ 1000
def spNext (P : Program) (w : World) (K : PySem.W.Frag) (mg : Str → Option Value) (base : Heap) (C : Addr) (ka : Nat) : Sp := fun vs H Q _ => ∃ (W : Ak) (G : Hp) (qs gr : List (List PyData)), vs = [.ref W.x] ∧ W.C = C ∧ AskC P w K mg base W.C ∧ AkF P w K mg base W ka ∧ AS P w W G H qs gr ∧ FineT W.ts ∧ (∀ x ∈ W.ts, noList x = true) ∧ NextOk W.ts qs gr ∧
  (∀ qs', nextD W.fq W.ts qs gr = (none, qs') → ∀ G' H' v, AS P w W G' H' qs' gr → Same G G' → Dq G' v (.list ((meetD (gr.map (restD W.ts))).map .list)) → Q v H') ∧
  (∀ one qs', nextD W.fq W.ts qs gr = (some one, qs') → ∀ G' H', AS P w W G' H' (fillD W.fq W.ts one qs').2 (gr ++ [(fillD W.fq W.ts one qs').1]) → Same G G' → Q .non H')
theorem nextLoop_take (fq : List PyData → Bool) : ∀ (F : List (List PyData)) (qs : List (List PyData)) (i : Nat), (∀ o ∈ F.take i, fq o = true) → nextLoop fq F qs = nextLoop fq (F.drop i) ((F.take i).foldl askedAlso qs)
  | F, qs, 0, _ => by simp
  | [], qs, i + 1, _ => by simp
  | o :: F, qs, i + 1, h => by
    have h0 := h o (by simp)
    rw [nextLoop, if_pos h0, nextLoop_take fq F (askedAlso qs o) i fun x hx => h x (by simp [hx])]
    simp
theorem asked_fold_len : ∀ (F qs : List (List PyData)), (F.foldl askedAlso qs).length ≤ qs.length + F.length
  | [], qs => by simp
  | o :: F, qs => by
    rw [List.foldl_cons]
    have h1 := asked_fold_len F (askedAlso qs o)
    have h2 := askedAlso_len qs o
    simp only [List.length_cons]
    omega
theorem asked_fold_mem : ∀ (F qs : List (List PyData)) (q : List PyData), q ∈ F.foldl askedAlso qs → q ∈ qs ∨ q ∈ F
  | [], qs, q, h => .inl h
  | o :: F, qs, q, h => by
    rw [List.foldl_cons] at h
    rcases asked_fold_mem F _ q h with z | z
    · exact (askedAlso_mem z).elim .inl fun e => .inr (by simp [e])
    · exact .inr (List.mem_cons_of_mem _ z)
theorem tSetPF_use {t : TE} (E : XK) {D : List PyData → PyData → Prop} {i : Nat} {De : Ends} {σ : L2.St} {G H : Hp} {d : PyData} (hs : Same G H) (h : PRF t σ G d) (k : ∀ v G1 H1, Ext G H G1 H1 → Dq (cut H G1) v d → spP D [v] H1 (fun v2 H2 => De.nx (σ.set i (some v2)) H2) E) : tAsg (tCall (spP D) [] E (tCons t tNil)) (gName i) De σ H := h H _ hs k
abbrev nextC : Scope := compSc (subE 1 (valOf (stAt (defBody iNext) 0)))
theorem xe_fld {X : Cx} {e : Expr} {ta : TE} {f : Str} {pos : Pos} (he : PE X e ta) (hb : attributeBase e f X.env (eval e X.env) = eval e X.env) (hK : X.K = K := by rfl) : PE X (.Attribute e f pos) (tFld K ta f) := hK ▸ pe_fld he hb
theorem ok_next {ka : Nat} {C : Addr} (MT : MethOk P w K mg base C "tells" (ka + 1) 2 (spTells P w K mg base ka)) (MF : MethOk P w K mg base C "fill" (ka + 2) 2 (spFill P w K mg base C ka)) (FM : Fn P w K mg base CX0 "meeting_lists" 3 1 (spP DMeetings)) (hka : 1 ≤ ka) :
    ∀ f fd, Fun K "next_meeting" "Asked.next_meeting" iNext f fd → FnOk P w K mg base CX0 (ka + 3) f fd ["self"] (spNext P w K mg base C ka) := fun f fd F => by
  refine F.ok (N := nNext) (k := ka + 2) scNext (by rintro vs H Q E ⟨W, G, qs, gr, rfl, _⟩; rfl) fun cdv A outer s H vs Q E hr hsp => ?_
  obtain ⟨W, G, qs, gr, rfl, rfl, C, AF, st, hT, hNL, hN, k1, k2⟩ := hsp
  have hu := hr.u65
  obtain ⟨fT, fdT, psT, t1, t2, t3, t4⟩ := MT.ex
  obtain ⟨fF, fdF, psF, f1, f2, f3, f4⟩ := MF.ex
  refine ⟨_, pss_cons (ps_set (i := 1) scNext.nd rfl (.inl rfl) (pe_fn FM (hr.mono (by omega)) (by rfl) pass0 (pa_cons (xe_lc1 (tt := tYes) nNext (defScope iNext) 3 (pi_list (pe_fld (pv 0) rfl)) (by decide +kernel) scNext.nd (.inl rfl) (fun _ _ _ _ _ => pts_nil)
      (fun _ _ _ _ _ => xe_lc1 nNext (relS nextC (defScope iNext)) 2 (xi_list (K := K) (xe_fld (K := K) (pv 0) (by rfl))) (by decide +kernel) scNext.nd (.inr rfl) (fun _ _ _ _ _ => pts_one (xt_notin (K := K) hu (pv 2) (pv 3))) (fun _ _ _ _ _ => pv 2))) pa_nil)))
    (pss_cons (ps_for PassesOwn.never rfl (pi_list (pv 1)) (pg_name (i := 3) scNext.nd rfl (.inl rfl))
      (pss_one (ps_if (pt_not (pt_val (pe_meth (pv 0) C.cls t1 t4 (hr.mono (by omega)) t3 .nil pass0 (pa_cons (pv 3) pa_nil)))) (pss_cons (ps_expr (pe_meth (pv 0) C.cls f1 f4 hr f3 .nil pass0 (pa_cons (pv 3) pa_nil)) (by rfl)) (pss_one (ps_ret pe_non))) pss_nil)))
    (pss_one (ps_ret (pv 1)))), ?_⟩
  have hsz : sizeLine = 16777216 := sizeLine_eq
  obtain ⟨vg, g1, g2⟩ := st.grt
  have hx0 : G W.x = none := (st.off _ (.inl rfl)).1
  have hg0 : G W.g = none := (st.off _ (.inr (.inr (.inr rfl)))).1
  have nxg : W.x ≠ W.g := ne_of st.ins g1 (by intro z; cases z)
  have up1 : Same G (upd (upd G W.x (.ins W.C W.dx (fieldsA W))) W.g (.lst vg)) := fun a o e => by
    rw [upd_ne (ne_of_none e hg0), upd_ne (ne_of_none e hx0)]; exact e
  have hst : Same (upd (upd G W.x (.ins W.C W.dx (fieldsA W))) W.g (.lst vg)) H := fun a o e => by
    by_cases z : a = W.g
    · subst z; rw [upd_same] at e; cases e; exact g1
    · rw [upd_ne z] at e
      by_cases y : a = W.x
      · subst y; rw [upd_same] at e; cases e; exact st.ins
      · rw [upd_ne y] at e; exact st.gh _ _ e
  have hto : ∀ a o, (upd (upd G W.x (.ins W.C W.dx (fieldsA W))) W.g (.lst vg)) a = some o → G a = some o ∨ (∀ xs, o ≠ .tup xs ∧ o ≠ .dK []) ∧ (∀ ks, o ≠ .dK ks) ∧ H a ≠ none := fun a o e => by
    have hh : H a ≠ none := by rw [hst _ _ e]; simp
    by_cases z : a = W.g
    · subst z; rw [upd_same] at e; cases e
      exact .inr ⟨fun xs => ⟨(fun z => nomatch z), fun z => nomatch z⟩, (fun ks z => nomatch z), hh⟩
    · rw [upd_ne z] at e
      by_cases y : a = W.x
      · subst y; rw [upd_same] at e; cases e
        exact .inr ⟨fun xs => ⟨(fun z => nomatch z), fun z => nomatch z⟩, (fun ks z => nomatch z), hh⟩
      · rw [upd_ne y] at e; exact .inl e
  have atx : (upd (upd G W.x (.ins W.C W.dx (fieldsA W))) W.g (.lst vg)) W.x = some (.ins W.C W.dx (fieldsA W)) := by rw [upd_ne nxg, upd_same]
  have hts : ∀ x ∈ W.ts, Sh 3 x := hT.2.1.shL
  have hgs : ∀ g ∈ gr, ShL 10 g := fun g hg x hx => (hts x ((hN.sub g hg).1 x hx)).mono (by decide)
  have hw : WR (iList K (tFld K (tVar 0) "greatest")) [some (.ref W.x), none, none, none] (upd (upd G W.x (.ins W.C W.dx (fieldsA W))) W.g (.lst vg)) (gr.map .list) :=
    WR_list (PR_fld rfl atx C.cls C.n4 rfl (.lst upd_same (g2.up up1)))
  have hpr : PRF (tLc (iList K (tFld K (tVar 0) "greatest")) (gName 3) tYes (tLc (iList K (tFld K (tVar 0) "things")) (gName 2) (tTest (tOp (rNotInD K) (tVar 2) (tVar 3))) (tVar 2) [2]) [3]) [some (.ref W.x), none, none, none] (upd (upd G W.x (.ins W.C W.dx (fieldsA W))) W.g (.lst vg)) (.list (gr.map fun g => .list (restD W.ts g))) := by
    refine PRF_map1 (bs := gr) (enc := .list) (f := fun g => .list (restD W.ts g)) hw (fun _ => rfl) (fun G1 g u h1 hg du => ?_) (by have := hN.num; omega)
    have hw2 : WR (iList K (tFld K (tVar 0) "things")) [some (.ref W.x), none, none, some u] G1 (W.ts.map id) := by
      rw [List.map_id]
      exact WR_list (PR_fld rfl (h1 _ _ atx) C.cls C.n2 rfl ((st.th.up up1).up h1))
    refine PRF.eq (PRF_lc1 (bs := W.ts) (enc := id) (f := id) (p := fun t => !hasD g t) hw2 (fun _ => rfl) (fun G2 b u2 h2 hb du2 => ⟨TR_test (PR_op (RR2_notin ((hts b hb).shaped (by decide)) ((hgs g hg).list.shaped (by decide))) (PR_var (i := 2) rfl du2) (PR_var (i := 3) rfl (du.up h2))), fun _ => PRF_var (j := 2) rfl du2 (hNL b hb)⟩) (by have := hT.2.2; omega)) (by rw [List.map_id]; rfl)
  refine tSetPF_use E0 hst hpr fun v1 G1 H1 e1 d1 => ?_
  have d1 := joinG_cut (Gt := G) (up1.trans e1.gg) d1
  have e1 := ext_unfld2 st.gh up1 hto e1
  have s1 := st.ext AF e1
  generalize joinG G (cut H G1) = G1 at d1 e1 s1
  have hlots : (gr.map fun g => PyData.list (restD W.ts g)) = (gr.map (restD W.ts)).map .list := by rw [List.map_map]; rfl
  rw [hlots] at d1
  have hrest : ∀ l ∈ gr.map (restD W.ts), (∀ x ∈ l, x ∈ W.ts) ∧ l.length ≤ 10 := fun l hl => by
    obtain ⟨g, _, rfl⟩ := List.mem_map.mp hl
    exact ⟨fun x hx => (List.mem_filter.mp hx).1, Nat.le_trans (List.length_filter_le _ _) hT.2.2⟩
  refine ⟨G1, _, _, s1.gh, .cons d1 .nil, ⟨gr.map (restD W.ts), W.ts, rfl, rfl, hT.2.1, fun l hl x hx => (hrest l hl).1 x hx, fun l hl => by have := (hrest l hl).2; omega, by rw [List.length_map]; exact hN.num, fun k => by have := hN.few k; omega⟩, fun vf G2 H2 e2 df => ?_⟩
  have s2 := s1.ext AF e2
  have hFm : ∀ l ∈ meetD (gr.map (restD W.ts)), ∀ x ∈ l, x ∈ W.ts := fun l hl => (meetD_sub (A := W.ts) (gr.map (restD W.ts)) [[]] (fun l' hl' x hx => (hrest l' hl').1 x hx) 0 (by simp) l hl).2
  have hFl : (meetD (gr.map (restD W.ts))).length ≤ 800 := by
    have := hN.few (gr.map (restD W.ts)).length
    rw [List.take_length] at this
    exact this
  have hfnd := hN.fnd
  unfold nextD at k1 k2
  generalize meetD (gr.map (restD W.ts)) = F at df hFm hFl hfnd k1 k2
  have hFn : F.length ≤ 800 := hFl
  cases df with
  | @lst af vfs _ haf hall =>
    have hall0 := hall
    refine ⟨_, rfl, af, rfl, ⟨vfs, SqL.of (e2.gh _ _ haf)⟩, ?_⟩
    refine for_nm (DW_list haf hall) (fun i σ H3 => ∃ (G3 : Hp) (x2 x3 : Option V), σ = [some (.ref W.x), some (.ref af), x2, x3] ∧ AS P w W G3 H3 ((F.take i).foldl askedAlso qs) gr ∧ Same G2 G3 ∧ (∀ o ∈ F.take i, W.fq o = true)) ?_ ?_ ?_ ?_
    · exact ⟨G2, _, _, rfl, s2, Same.refl _, by simp⟩
    · rintro i σ H3 _ ⟨G3, x2, x3, rfl, s3, s4, _⟩
      exact s4.trans s3.gh
    · rintro i d y σ H3 H4 q1 ⟨G3, x2, x3, rfl, s3, s4, ha⟩ q2 q3
      obtain ⟨G4, e4, dy⟩ := q3 G3 s4 s3.gh
      have s5 := s3.ext AF e4
      rw [List.getElem?_map] at q1
      cases qi : F[i]? with
      | none => rw [qi] at q1; cases q1
      | some one =>
        rw [qi] at q1
        simp only [Option.map_some, Option.some.injEq] at q1
        subst q1
        have hone : one ∈ F := List.mem_of_getElem? qi
        have htake : F.take (i + 1) = F.take i ++ [one] := by rw [List.take_add_one, qi]; rfl
        have hfold : (F.take (i + 1)).foldl askedAlso qs = askedAlso ((F.take i).foldl askedAlso qs) one := by rw [htake, List.foldl_append]; rfl
        have hlo := nextLoop_take W.fq F qs i ha
        have hlen := asked_fold_len (F.take i) qs
        have htl : (F.take i).length ≤ F.length := by rw [List.length_take]; omega
        have hqn := hN.qn
        have hgood : ∀ q ∈ (F.take i).foldl askedAlso qs, GoodK q := fun q hq => (asked_fold_mem _ _ q hq).elim (hN.gq q) fun z => hT.good (hFm q (List.mem_of_mem_take z))
        have fine : Fine W one := ⟨hT.good (hFm one hone), by have := (hfnd one hone).1; omega, hFm one hone, (hfnd one hone).2⟩
        have hdrop : F.drop i = one :: F.drop (i + 1) := by
          rw [List.drop_eq_getElem?_toList_append, qi]; rfl
        refine ⟨_, rfl, W.x, W.dx, fieldsA W, rfl, s5.ins, rfl, ⟨_, rfl, W, G4, y, one, (F.take i).foldl askedAlso qs, gr, rfl, C, AF, s5, dy, fine, hgood, by omega, fun G6 H6 s6 sg6 => ⟨_, rfl, ?_⟩⟩⟩
        rw [← hfold] at s6
        cases hb : W.fq one with
        | true =>
          refine iteF ⟨G6, x2, some y, rfl, s6, (s4.trans e4.gg).trans sg6, fun o ho => ?_⟩
          rw [htake] at ho
          rcases List.mem_append.mp ho with z | z
          · exact ha o z
          · simp at z; subst z; exact hb
        | false =>
          rw [hdrop, nextLoop, if_neg (by rw [hb]; simp), ← hfold] at hlo
          have hlen2 := asked_fold_len (F.take (i + 1)) qs
          have htl2 : (F.take (i + 1)).length ≤ F.length := by rw [List.length_take]; omega
          have hgood2 : ∀ q ∈ (F.take (i + 1)).foldl askedAlso qs, GoodK q := fun q hq => (asked_fold_mem _ _ q hq).elim (hN.gq q) fun z => hT.good (hFm q (List.mem_of_mem_take z))
          have hnum := hN.num
          refine iteT ⟨_, rfl, W.x, W.dx, fieldsA W, rfl, s6.ins, rfl, ⟨_, rfl, W, G6, y, one, _, gr, rfl, rfl, C, AF, s6, dy.up sg6, hT, hFm one hone, (hfnd one hone).1, hgood2, by omega, by omega, fun G7 H7 s7 sg7 => ?_⟩⟩
          exact k2 one _ hlo G7 H7 s7 ((e1.gg.trans e2.gg).trans (((s4.trans e4.gg).trans sg6).trans sg7))
    · rintro σ H3 ⟨G3, x2, x3, rfl, s3, s4, ha⟩
      rw [List.length_map, List.take_length] at s3 ha
      have hlo := nextLoop_take W.fq F qs F.length (by rw [List.take_length]; exact ha)
      rw [List.drop_length, List.take_length] at hlo
      exact ⟨_, rfl, k1 _ hlo G3 H3 _ s3 ((e1.gg.trans e2.gg).trans s4) (.lst (s4 _ _ haf) (hall0.up s4))⟩
end
end K48
set_option Elab.async false
set_option linter.all false
set_option maxRecDepth 100000
set_option maxHeartbeats 4000000
/-! K48n: Asked.__init__, charted_lists, charted -/
namespace K48
open PySem PySem.Spec PyProof.Rows L2 PD StX RZ NdefX LamX
section
variable {P : Program} {w : World} {K : PySem.W.Frag} {mg : Str → Option Value} {base : Heap} {G H G' H' : Hp}
abbrev nInit : List Str := ["self", "ask", "things"]
theorem scInit : FnScope nInit ["self", "ask", "things"] (defScope iInit) := ⟨rfl, rfl, rfl, by decide +kernel, rfl, by decide +kernel, by decide +kernel⟩
def spInitA (P : Program) (w : World) (K : PySem.W.Frag) (mg : Str → Option Value) (base : Heap) (C : Addr) : Sp := fun vs H Q _ => ∃ x dx f t, vs = [.ref x, .ref f, t] ∧ H x = some (.ins C dx []) ∧ AskC P w K mg base C ∧
  ∀ d g H', H d = none → H g = none → d ≠ g → H' x = some (.ins C dx [("ask", .ref f), ("things", t), ("known", .ref d), ("greatest", .ref g)]) → H' d = some (KnO P w d []) → H' g = some (.lst []) → (∀ a o, H a = some o → a ≠ x → H' a = some o) → (∀ a, H' a = none → H a = none) → Q .non H'
theorem ok_initA {C : Addr} : ∀ f fd, Fun K "__init__" "Asked.__init__" iInit f fd → FnOk P w K mg base CX0 1 f fd ["self", "ask", "things"] (spInitA P w K mg base C) := fun f fd F => by
  refine F.ok (N := nInit) (k := 0) scInit (by rintro vs H Q E ⟨x, dx, f, t, rfl, _⟩; rfl) fun cdv A outer s H vs Q E hr hsp => ?_
  obtain ⟨x, dx, f, t, rfl, hx, C_, k⟩ := hsp
  refine ⟨_, pss_one (ps_asg (pe_tup (pa_cons (pv 1) (pa_cons (pv 2) (pa_cons pe_newK (pa_cons (pe_lst pa_nil) pa_nil)))))
    (pg_tup (n := 4) rfl (pgs_cons (pg_fld (pv 0) (fun _ => rfl)) (pgs_cons (pg_fld (pv 0) (fun _ => rfl)) (pgs_cons (pg_fld (pv 0) (fun _ => rfl)) (pgs_cons (pg_fld (pv 0) (fun _ => rfl)) pgs_nil)))))), ?_⟩
  refine ⟨_, rfl, _, rfl, fun d hd => ⟨by show 0 ≤ sizeLine; omega, fun g hg => ⟨by show 4 ≤ sizeLine; decide, fun q hq => ?_⟩⟩⟩
  have xd : x ≠ d := ne_of_none hx hd
  have gd : d ≠ g := ne_of_none upd_same hg
  have hgH : H g = none := NdefX.upd_none hg
  have hqH : H q = none := NdefX.upd_none (NdefX.upd_none hq)
  have xg : x ≠ g := ne_of_none hx hgH
  have xq : x ≠ q := ne_of_none hx hqH
  have dq : d ≠ q := by
    rintro rfl
    rw [upd_ne gd, upd_same] at hq
    cases hq
  have gq : g ≠ q := by
    rintro rfl
    rw [upd_same] at hq
    cases hq
  have hx3 : (upd (upd (upd H d (KnO P w d [])) g (.lst [])) q (.tup [.ref f, t, .ref d, .ref g])) x = some (.ins C dx []) := by
    rw [upd_ne xq, upd_ne xg, upd_ne xd]; exact hx
  refine ⟨q, _, rfl, SqT.of upd_same, rfl, ?_⟩
  refine ⟨_, _, rfl, ⟨_, rfl, x, C, dx, _, rfl, hx3, C_.cls, C_.n1, (by show 0 < 1000; decide), ?_⟩⟩
  refine ⟨_, _, rfl, ⟨_, rfl, x, C, dx, _, rfl, upd_same, C_.cls, C_.n2, (by show 1 < 1000; decide), ?_⟩⟩
  refine ⟨_, _, rfl, ⟨_, rfl, x, C, dx, _, rfl, upd_same, C_.cls, C_.n3, (by show 2 < 1000; decide), ?_⟩⟩
  refine ⟨_, _, rfl, ⟨_, rfl, x, C, dx, _, rfl, upd_same, C_.cls, C_.n4, (by show 3 < 1000; decide), ?_⟩⟩
  refine ⟨rfl, k d g _ hd hgH gd upd_same ?_ ?_ (fun a o e n => ?_) fun a e => ?_⟩
  · rw [upd_ne xd.symm, upd_ne xd.symm, upd_ne xd.symm, upd_ne xd.symm, upd_ne dq, upd_ne gd, upd_same]; rfl
  · rw [upd_ne xg.symm, upd_ne xg.symm, upd_ne xg.symm, upd_ne xg.symm, upd_ne gq, upd_same]
  · rw [upd_ne n, upd_ne n, upd_ne n, upd_ne n, upd_ne (ne_of_none e hqH), upd_ne (ne_of_none e hgH), upd_ne (ne_of_none e hd)]
    exact e
  · exact NdefX.upd_none (NdefX.upd_none (NdefX.upd_none (NdefX.upd_none (NdefX.upd_none (NdefX.upd_none (NdefX.upd_none e))))))
/-! ### charted_lists -/
abbrev Ak.at (W : Ak) (x dx d g : Addr) : Ak := { W with x := x, dx := dx, d := d, g := g }
/-- how the asking runs: what was asked, the greatest ones, to the end -/
inductive Runs (fq : List PyData → Bool) (ts : List PyData) : List (List PyData) → List (List PyData) → List (List PyData) → List (List PyData) → Nat → Prop
  | done {qs gr qe : List (List PyData)} : NextOk ts qs gr → nextD fq ts qs gr = (none, qe) → Runs fq ts qs gr qe gr 0
  | more {qs gr qs1 qe ge : List (List PyData)} {one : List PyData} {n : Nat} : NextOk ts qs gr → nextD fq ts qs gr = (some one, qs1) → Runs fq ts (fillD fq ts one qs1).2 (gr ++ [(fillD fq ts one qs1).1]) qe ge n → Runs fq ts qs gr qe ge (n + 1)
/-- what stands behind the asking -/
structure ExtZ (Z : Addr → Prop) (G H G' H' : Hp) : Prop where
  hh : ∀ a o, H a = some o → ¬ Z a → H' a = some o
  dom : ∀ a, H' a = none → H a = none
  gg : Same G G'
  gh : Same G' H'
  fr : ∀ a, G' a ≠ none → G a ≠ none ∨ H a = none
abbrev sChartL : Stmt := top 17
abbrev nChartL : List Str := ["ask", "things", "asked", "found"]
theorem scChartL : FnScope nChartL ["ask", "things"] (defScope sChartL) := ⟨rfl, rfl, rfl, by decide +kernel, rfl, by decide +kernel, by decide +kernel⟩
def chartD (ts : List PyData) (ge : List (List PyData)) : PyData := .tuple [.list ((sortLD (meetD (ge.map (restD ts)))).map .list), .list ((sortLD ge).map .list)]
def spChartL (P : Program) (w : World) (K : PySem.W.Frag) (mg : Str → Option Value) (base : Heap) (C : Addr) (ka : Nat) : Sp := fun vs H Q _ => ∃ (W : Ak) (G : Hp) (qe ge : List (List PyData)) (n : Nat), vs = [.ref W.f, W.t] ∧ W.C = C ∧ W.H0 = H ∧ W.G0 = G ∧ AskC P w K mg base C ∧ AkF P w K mg base W ka ∧ Same G H ∧ Dq G W.t (.list W.ts) ∧ FineT W.ts ∧ (∀ x ∈ W.ts, noList x = true) ∧ (∀ g, H g = none → W.J g [] H) ∧ (∀ a, W.Z a → G a = none) ∧
  Runs W.fq W.ts [] [] qe ge n ∧ ∀ g v G' H', W.J g qe H' → ExtZ W.Z G H G' H' → Dq G' v (chartD W.ts ge) → Q v H'
theorem ok_chartL {ka : Nat} {C fi : Addr} {fdi : FuncData} (M : Mk K C fi) (FI : FnOk P w K mg base CX0 1 fi fdi ["self", "ask", "things"] (spInitA P w K mg base C)) (bi : Binds K fdi ["self", "ask", "things"] []) (mA : mg "Asked" = some (.ref C)) (m1 : mg "sorted" = none)
    (MN : MethOk P w K mg base C "next_meeting" (ka + 3) 1 (spNext P w K mg base C ka)) (hka : 1 ≤ ka) :
    ∀ f fd, Fun K "charted_lists" "charted_lists" sChartL f fd → FnOk P w K mg base CX0 (ka + 4) f fd ["ask", "things"] (spChartL P w K mg base C ka) := fun f fd F => by
  refine F.ok (N := nChartL) (k := ka + 3) scChartL (by rintro vs H Q E ⟨W, G, qe, ge, n, rfl, _⟩; rfl) fun cdv A outer s H vs Q E hr hsp => ?_
  obtain ⟨W, G, qe, ge, n, rfl, rfl, rfl, rfl, C, AF, hG, dt, hT, hNL, hJ, hz, hR, k⟩ := hsp
  have hu := hr.u65
  obtain ⟨fN, fdN, psN, t1, t2, t3, t4⟩ := MN.ex
  refine ⟨_, pss_cons (ps_par (i := 2) (j := 3) rfl scChartL.nd rfl rfl (by decide) rfl rfl (pa_cons (pe_make (k := 1) M FI (hr.mono (by omega)) (by rfl) mA bi .nil pass0 (pa_cons (pv 0) (pa_cons (pv 1) pa_nil))) (pa_cons pe_non pa_nil)) rfl)
    (pss_cons (ps_while PassesOwn.never (pt_cmp (pc_isN (pv 3))) (pss_one (ps_set (i := 3) scChartL.nd rfl (.inl rfl) (pe_meth0 (pv 2) C.cls t1 t4 hr t3 .nil pass0))))
    (pss_one (ps_ret (pe_tup (pa_cons (xe_sorted (K := K) m1 hu (pv 3)) (pa_cons (xe_sorted (K := K) m1 hu (xe_fld (K := K) (pv 2) (by rfl))) pa_nil)))))), ?_⟩
  have hsz : sizeLine = 16777216 := sizeLine_eq
  refine ⟨_, rfl, _, rfl, fun x dx hx hdx hne => ?_⟩
  refine ⟨x, dx, W.f, W.t, rfl, upd_same, C, fun d g H1 hd hg hdg ix idd ig kp dm => ⟨rfl, _, _, rfl, ?_⟩⟩
  have hdH : W.H0 d = none := NdefX.upd_none (NdefX.upd_none hd)
  have hgH : W.H0 g = none := NdefX.upd_none (NdefX.upd_none hg)
  have hAF : AkF P w K mg base (W.at x dx d g) ka := ⟨AF.fn, AF.cal, AF.st, AF.zh⟩
  have old : ∀ a o, W.H0 a = some o → H1 a = some o := fun a o e => by
    have n1 : a ≠ x := ne_of_none e hx
    have n2 : a ≠ dx := ne_of_none e hdx
    refine kp a o ?_ n1
    rw [upd_ne n1, upd_ne n2]; exact e
  have hdm : ∀ a, H1 a = none → W.H0 a = none := fun a e => NdefX.upd_none (NdefX.upd_none (dm a e))
  have hown : H1 dx = some (.own x) := kp dx _ (by rw [upd_ne hne, upd_same]) hne
  have st0 : AS P w (W.at x dx d g) W.G0 H1 [] [] := by
    refine ⟨ix, hown, ⟨[], idd, trivial, rfl⟩, ⟨[], ig, .nil⟩, dt, AF.st _ _ _ _ (hJ g hgH) (fun a o h _ => old a o (noTb_some h).1) (fun a ha => ?_), fun a o e => old a o (hG _ _ e), Same.refl _, fun a ha => ?_, hz, fun a o e _ => old a o e, hdm, fun a h => .inl h⟩
    · cases q : W.H0 a with
      | none => exact absurd q ha
      | some o => exact old a o q
    · have : W.H0 a = none := by rcases ha with rfl | rfl | rfl | rfl <;> assumption
      exact ⟨hG.free this, this⟩
  refine ⟨fun m σ H2 => ∃ (G2 : Hp) (vf : V) (qs gr : List (List PyData)), σ = [some (.ref W.f), some W.t, some (.ref x), some vf] ∧ AS P w (W.at x dx d g) G2 H2 qs gr ∧ Same W.G0 G2 ∧
    ((vf = .non ∧ ∃ i, m = i + 1 ∧ Runs W.fq W.ts qs gr qe ge i) ∨ (qs = qe ∧ gr = ge ∧ (∀ g ∈ ge, ∀ x ∈ g, x ∈ W.ts) ∧ Dq G2 vf (.list ((meetD (ge.map (restD W.ts))).map .list)))), ⟨n + 1, W.G0, .non, [], [], rfl, st0, Same.refl _, .inl ⟨rfl, n, rfl, hR⟩⟩, ?_⟩
  rintro m σ H2 ⟨G2, vf, qs, gr, rfl, s2, sg, hc⟩
  refine ⟨_, rfl, _, rfl, ?_⟩
  rcases hc with ⟨rfl, i, rfl, run⟩ | ⟨rfl, rfl, no, df⟩
  · rw [if_pos (by decide)]
    refine ⟨fun σ H3 => ∃ (G3 : Hp) (vf : V) (qs gr : List (List PyData)), σ = [some (.ref W.f), some W.t, some (.ref x), some vf] ∧ AS P w (W.at x dx d g) G3 H3 qs gr ∧ Same W.G0 G3 ∧
      ((vf = .non ∧ ∃ i', i = i' + 1 ∧ Runs W.fq W.ts qs gr qe ge i') ∨ (qs = qe ∧ gr = ge ∧ (∀ g ∈ ge, ∀ x ∈ g, x ∈ W.ts) ∧ Dq G3 vf (.list ((meetD (ge.map (restD W.ts))).map .list)))), ?_, ?_⟩
    · rintro σ H3 ⟨G3, vf, qs, gr, h1, h2, h3, h4⟩
      exact ⟨i, Nat.lt_succ_self _, G3, vf, qs, gr, h1, h2, h3, h4⟩
    · have ho : ∀ one qs1, nextD W.fq W.ts qs gr = (some one, qs1) → ∃ i', i = i' + 1 ∧ Runs W.fq W.ts (fillD W.fq W.ts one qs1).2 (gr ++ [(fillD W.fq W.ts one qs1).1]) qe ge i' := fun one qs1 e => by
        cases run with
        | done _ h => rw [h] at e; cases e
        | more _ h r => rw [h] at e; cases e; exact ⟨_, rfl, r⟩
      have hd' : ∀ qs1, nextD W.fq W.ts qs gr = (none, qs1) → qs1 = qe ∧ gr = ge := fun qs1 e => by
        cases run with
        | done _ h => rw [h] at e; cases e; exact ⟨rfl, rfl⟩
        | more _ h r => rw [h] at e; cases e
      have no : NextOk W.ts qs gr := by cases run <;> assumption
      refine ⟨_, rfl, x, dx, fieldsA (W.at x dx d g), rfl, s2.ins, rfl, ⟨W.at x dx d g, G2, qs, gr, rfl, rfl, C, hAF, s2, hT, hNL, no, fun qs1 e G3 H3 v s3 sg3 dv => ?_, fun one qs1 e G3 H3 s3 sg3 => ?_⟩⟩
      · obtain ⟨rfl, rfl⟩ := hd' qs1 e
        exact ⟨G3, v, _, _, rfl, s3, sg.trans sg3, .inr ⟨rfl, rfl, fun g hg => (no.sub g hg).1, dv⟩⟩
      · obtain ⟨i', rfl, r⟩ := ho one qs1 e
        exact ⟨G3, _, _, _, rfl, s3, sg.trans sg3, .inl ⟨rfl, i', rfl, r⟩⟩
  · have nn : vf ≠ .non := by rintro rfl; cases df
    rw [if_neg (by simp [nn])]
    obtain ⟨vg, g1, g2⟩ := s2.grt
    have hx0 : G2 x = none := (s2.off _ (.inl rfl)).1
    have hg0 : G2 g = none := (s2.off _ (.inr (.inr (.inr rfl)))).1
    have i2 : H2 x = some (.ins W.C dx (fieldsA (W.at x dx d g))) := s2.ins
    have g1 : H2 g = some (.lst vg) := g1
    have nxg : x ≠ g := ne_of i2 g1 (by intro z; cases z)
    have up1 : Same G2 (upd (upd G2 x (.ins W.C dx (fieldsA (W.at x dx d g)))) g (.lst vg)) := fun a o e => by
      rw [upd_ne (ne_of_none e hg0), upd_ne (ne_of_none e hx0)]; exact e
    have hst : Same (upd (upd G2 x (.ins W.C dx (fieldsA (W.at x dx d g)))) g (.lst vg)) H2 := fun a o e => by
      by_cases z : a = g
      · subst z; rw [upd_same] at e; cases e; exact g1
      · rw [upd_ne z] at e
        by_cases y : a = x
        · subst y; rw [upd_same] at e; cases e; exact i2
        · rw [upd_ne y] at e; exact s2.gh _ _ e
    have atx : (upd (upd G2 x (.ins W.C dx (fieldsA (W.at x dx d g)))) g (.lst vg)) x = some (.ins W.C dx (fieldsA (W.at x dx d g))) := by rw [upd_ne nxg, upd_same]
    have kin1 : KinL W.ts (meetD (gr.map (restD W.ts))) := ⟨hT.2.1, fun l hl => (meetD_sub (A := W.ts) (gr.map (restD W.ts)) [[]] (fun l' hl' x hx => by
      obtain ⟨g, _, rfl⟩ := List.mem_map.mp hl'
      exact (List.mem_filter.mp hx).1) 0 (by simp) l hl).2⟩
    refine tRet_use hst (PR_tup (PRA_two (PR_CB (RR_sortedL kin1) (PRA_one (PR_var (i := 3) rfl (df.up up1)))) (PR_CB (RR_sortedL (A := W.ts) ⟨hT.2.1, no⟩) (PRA_one (PR_fld rfl atx C.cls C.n4 rfl (.lst upd_same (g2.up up1)))))) (by show 2 ≤ sizeLine; omega)) fun v G3 H3 e dv => ?_
    refine k _ v G3 H3 (AF.st _ _ _ _ s2.j (fun a o h _ => e.hh _ _ (noTb_some h).1) fun a ha => ?_) ⟨fun a o h1 h2 => e.hh _ _ (s2.hh a o h1 h2), fun a h => s2.dom a (e.hh.free h), (sg.trans up1).trans e.gg, e.gh, fun a h => ?_⟩ dv
    · cases q : H2 a with
      | none => exact absurd (s2.dom a q) ha
      | some o => exact e.hh _ _ q
    · rcases e.fr a h with z | z
      · by_cases y : a = g
        · subst y; exact .inr hgH
        · rw [upd_ne y] at z
          by_cases y2 : a = x
          · subst y2; exact .inr hx
          · rw [upd_ne y2] at z; exact s2.fr a z
      · exact .inr (s2.dom a z)
end
end K48
set_option Elab.async false
set_option linter.all false
set_option maxRecDepth 100000
set_option maxHeartbeats 4000000
/-! K48o: charted -/
namespace K48
open PySem PySem.Spec PyProof.Rows L2 PD StX RZ NdefX LamX
section
variable {P : Program} {w : World} {K : PySem.W.Frag} {mg : Str → Option Value} {base : Heap} {G H G' H' : Hp}
abbrev sCharted : Stmt := top 18
abbrev nCharted : List Str := ["ask", "keys"]
theorem scCharted : FnScope nCharted ["ask", "keys"] (defScope sCharted) := ⟨rfl, rfl, rfl, by decide +kernel, rfl, by decide +kernel, by decide +kernel⟩
def spCharted (P : Program) (w : World) (K : PySem.W.Frag) (mg : Str → Option Value) (base : Heap) (CK C : Addr) (ka : Nat) : Sp := fun vs H Q E => ∃ (G : Hp) (f : Addr) (vk : V) (dk : PyData), vs = [.ref f, vk] ∧ Same G H ∧ Dq G vk dk ∧ SmallK dk ∧ AskC P w K mg base C ∧
  (badK dk = true → XOut CK "keyring" vk H E) ∧ (badK dk = false → Kin (keysD dk) ∧ FineT (lotD dk) ∧ (∀ x ∈ lotD dk, noList x = true) ∧ ∃ (fq : List PyData → Bool) (Z : Addr → Prop) (J : Addr → List (List PyData) → Hp → Prop) (qe ge : List (List PyData)) (n : Nat), (∀ a, Z a → G a = none ∧ H a ≠ none) ∧ Runs fq (lotD dk) [] [] qe ge n ∧ (∀ g, H g = none → J g [] H) ∧ (∀ g qs H1 H', J g qs H1 → (∀ a o, noTb H1 a = some o → a ≠ g → H' a = some o) → (∀ a, H a ≠ none → H' a = H1 a) → J g qs H') ∧
    (∀ t G1 H1, Ext G H G1 H1 → AkF P w K mg base ⟨C, 0, 0, 0, 0, f, t, lotD dk, fq, H1, G1, Z, J⟩ ka) ∧ ∀ g v G' H', J g qe H' → ExtZ Z G H G' H' → Dq G' v (chartD (lotD dk) ge) → Q v H')
theorem ok_charted {CK C : Addr} {ka : Nat} (FT : Fn P w K mg base (L2.CX P w) "checked_things" 5 1 (spThings CK)) (FL : Fn P w K mg base CX0 "charted_lists" (ka + 4) 2 (spChartL P w K mg base C ka)) (hka : 1 ≤ ka) :
    ∀ f fd, Fun K "charted" "charted" sCharted f fd → FnOk P w K mg base (L2.CX P w) (ka + 5) f fd ["ask", "keys"] (spCharted P w K mg base CK C ka) := fun f fd F => by
  refine F.okX (N := nCharted) (k := ka + 4) scCharted (by rintro vs H Q E ⟨G, f, vk, dk, rfl, _⟩; rfl) fun cdv A outer s H vs Q E hr hsp => ?_
  obtain ⟨G, fa, vk, dk, rfl, hG, dvk, ⟨s1, s2, s3, s4⟩, C, hb1, hb2⟩ := hsp
  refine ⟨_, pss_one (ps_ret (pe_fn FL hr (by rfl) pass0 (pa_cons (pv 0) (pa_cons (pe_fn (E := E) FT (hr.mono (by omega)) (by rfl) (passes_call (takes_of rfl rfl rfl rfl) fun _ _ _ _ h => h) (pa_cons (pv 1) pa_nil)) pa_nil)))), ?_⟩
  refine ⟨_, rfl, _, rfl, G, vk, dk, rfl, hG, dvk, s1, s2, s3, s4, fun hk => ?_, hb1⟩
  obtain ⟨kin, hT, hN, fq, Z, J, qe, ge, n, hZ, hR, hJ, hst, hAF, kq⟩ := hb2 hk
  refine ⟨kin, fun vt G1 H1 e1 dt => ?_⟩
  refine ⟨⟨_, 0, 0, 0, 0, fa, vt, lotD dk, fq, H1, G1, Z, J⟩, G1, qe, ge, n, rfl, rfl, rfl, rfl, C, hAF vt G1 H1 e1, e1.gh, dt, hT, hN, fun g hg => hst _ _ _ _ (hJ g (e1.hh.free hg)) (fun a o h _ => e1.hh _ _ (noTb_some h).1) (fun a ha => ?_), fun a ha => ?_, hR, fun g v G2 H2 j2 z dv => kq g v G2 H2 j2 ⟨fun a o h1 h2 => z.hh a o (e1.hh _ _ h1) h2, fun a h => e1.hh.free (z.dom a h), e1.gg.trans z.gg, z.gh, fun a h => ?_⟩ dv⟩
  · cases q : H a with
    | none => exact absurd q ha
    | some o => exact e1.hh _ _ q
  · obtain ⟨z1, z2⟩ := hZ a ha
    cases q : G1 a with
    | none => rfl
    | some o =>
      rcases e1.fr a (by rw [q]; simp) with z | z
      · exact absurd z1 z
      · exact absurd z z2
  · rcases z.fr a h with y | y
    · exact e1.fr a y
    · exact .inr (e1.hh.free y)
theorem fn_charted {CK C : Addr} {ka : Nat} (D : Df K mg "charted" sCharted) (FT : Fn P w K mg base (L2.CX P w) "checked_things" 5 1 (spThings CK)) (FL : Fn P w K mg base CX0 "charted_lists" (ka + 4) 2 (spChartL P w K mg base C ka)) (hka : 1 ≤ ka) :
    FnK P w K mg base (L2.CX P w) "charted" (ka + 5) 2 ["keys", "ask"] (fun l => swap2 l) (spCharted P w K mg base CK C ka) :=
  fnK2 D (fun _ _ _ _ _ _ us hl => match us, hl with | [_, _], _ => rfl) (fun _ _ _ _ _ _ us hl => match us, hl with | [_, _], _ => rfl) (ok_charted FT FL hka)
end
end K48
set_option Elab.async false
set_option linter.all false
set_option maxRecDepth 100000
set_option maxHeartbeats 4000000
/-! K48p: _law_meeting_right -/
namespace K48
open PySem PySem.Spec PyProof.Rows L2 PD StX RZ NdefX LamX
section
variable {P : Program} {w : World} {K : PySem.W.Frag} {mg : Str → Option Value} {base : Heap} {G H G' H' : Hp}
/-- the arguments of meeting are good, and what it tells -/
def MeetIs (dk dl : PyData) (r : List (List PyData)) : Prop := SmallK dk ∧ badK dk = false ∧ Kin (keysD dk) ∧ SmallL dl ∧ badL (thingsD dk) dl = false ∧ GoodM dk dl ∧ meetingD dl = r
theorem sp_meet {CK CL : Addr} {vk vl : V} {dk dl : PyData} {r : List (List PyData)} {Q : VK} {E : XK} (h : MeetIs dk dl r) (hs : Same G H) (dvk : Dq G vk dk) (dvl : Dq G vl dl)
    (k : ∀ v G' H', Ext G H G' H' → Dq (cut H G') v (.list (r.map .list)) → Q v H') : spMeeting CK CL [vk, vl] H Q E := by
  obtain ⟨h1, h2, h3, h4, h5, h6, h7⟩ := h
  subst h7
  exact ⟨G, vk, vl, dk, dl, rfl, hs, dvk, dvl, h1, (fun z => by rw [h2] at z; cases z), fun _ => ⟨h3, h4, (fun z => by rw [h5] at z; cases z), fun _ => ⟨h6, k⟩⟩⟩
theorem PRF_meet {CK CL : Addr} {σ : L2.St} {t : TA} {dk dl : PyData} {r : List (List PyData)} {E : XK} (h : MeetIs dk dl r) (ht : PRA t σ G [dk, dl]) : PRF (tCall (spMeeting CK CL) [] E t) σ G (.list (r.map .list)) := fun H Q hs k =>
  ht H _ hs fun vs G1 H1 e1 dv => by
    obtain ⟨vk, vl, rfl, d1, d2⟩ := dv.two
    exact sp_meet h e1.gh d1 d2 fun v G2 H2 e2 d => k v G2 H2 (e1.trans e2) (d.up (cut_back e1.hh))
theorem PRF_meetK {CK CL : Addr} {σ : L2.St} {t : TA} {dk dl : PyData} {r : List (List PyData)} {E : XK} (h : MeetIs dk dl r) (ht : PRA t σ G [dl, dk]) : PRF (tCallK0 2 (fun l => swap2 l) (spMeeting CK CL) E t) σ G (.list (r.map .list)) := fun H Q hs k =>
  ht H _ hs fun vs G1 H1 e1 dv => by
    obtain ⟨vl, vk, rfl, d2, d1⟩ := dv.two
    exact ⟨rfl, sp_meet h e1.gh d1 d2 fun v G2 H2 e2 d => k v G2 H2 (e1.trans e2) (d.up (cut_back e1.hh))⟩
/-! a told list of lists, spoilt -/
def thgD (d : PyData) : Prop := (∃ s, d = .str s) ∨ ∃ ss : List Str, d = .tuple (ss.map .str)
theorem dqAll_in {vs : List V} {ds : List PyData} (h : DqAll G vs ds) : ∀ x ∈ vs, ∃ d ∈ ds, Dq G x d := by
  induction vs generalizing ds with
  | nil => intro x hx; cases hx
  | cons v vs ih =>
    intro x hx
    cases h with
    | cons a b =>
      rcases List.mem_cons.mp hx with rfl | hx
      · exact ⟨_, List.mem_cons_self .., a⟩
      · obtain ⟨d, h1, h2⟩ := ih b x hx
        exact ⟨d, List.mem_cons_of_mem _ h1, h2⟩
theorem thg_of {v : V} {d : PyData} (hd : Dq G v d) (hs : Same G H) (h : thgD d) : Thg H v := by
  rcases h with ⟨s, rfl⟩ | ⟨ss, rfl⟩
  · cases hd; exact .inl ⟨_, rfl⟩
  · cases hd with
    | tup h1 h2 =>
      refine .inr ⟨_, _, rfl, hs _ _ h1, fun y hy => ?_⟩
      obtain ⟨d, hd, dy⟩ := dqAll_in h2 y hy
      obtain ⟨s, _, rfl⟩ := List.mem_map.mp hd
      cases dy
      exact ⟨_, rfl⟩
theorem spoilt_use {H0 Gc : Hp} {v : V} {ls : List (List PyData)} {Q : VK} {E : XK} (hd : Dq Gc v (.list (ls.map .list))) (hs : Same Gc H) (hn : ∀ a xs, Gc a = some (.lst xs) → H0 a = none) (ht : ∀ l ∈ ls, ∀ x ∈ l, thgD x) (h1 : ls.length ≤ 1000) (h2 : ∀ l ∈ ls, l.length ≤ 1000)
    (k : ∀ H', (∀ b o, H0 b ≠ none → H b = some o → H' b = some o) → (∀ b, H' b = none → H b = none) → Q .non H') : spSpoilt 3 [v] H Q E := by
  cases hd with
  | @lst a xs _ ha hall =>
    have len := hall.len
    rw [List.length_map] at len
    have sub : ∀ x ∈ xs, ∃ b ys, x = .ref b ∧ Gc b = some (.lst ys) ∧ ys.length ≤ 1000 ∧ ∀ y ∈ ys, Thg H y := fun x hx => by
      obtain ⟨d, m, dx⟩ := dqAll_in hall x hx
      obtain ⟨l, hl, rfl⟩ := List.mem_map.mp m
      cases dx with
      | @lst b ys _ hb hys =>
        refine ⟨b, ys, rfl, hb, by rw [hys.len]; exact h2 l hl, fun y hy => ?_⟩
        obtain ⟨d, hd, dy⟩ := dqAll_in hys y hy
        exact thg_of dy hs (ht l hl d hd)
    refine ⟨a, xs, rfl, hs _ _ ha, by omega, fun x hx => ?_, fun H' q1 q2 => k H' (fun b o n e => q1 b o (fun z => n (z ▸ hn a xs ha)) (fun z => ?_) e) q2⟩
    · obtain ⟨b, ys, rfl, hb, l, t⟩ := sub x hx
      refine ⟨b, ys, rfl, ?_, hs _ _ hb, l, t⟩
      rintro rfl
      rw [ha] at hb
      cases hb
      rcases t _ hx with ⟨s, z⟩ | ⟨c, zs, z, z1, _⟩
      · cases z
      · cases z
        rw [hs _ _ ha] at z1
        cases z1
    · obtain ⟨b2, ys, e, hb, _⟩ := sub _ z
      cases e
      exact n (hn _ _ hb)
theorem tSetA_use {t : TA} {sp : Sp} {E : XK} {i : Nat} {De : Ends} {σ : L2.St} (h : t σ H fun vs H1 => sp (vs ++ []) H1 (fun v H2 => De.nx (σ.set i (some v)) H2) E) : tAsg (tCall sp [] E t) (gName i) De σ H := h
theorem tDrop1_use {sp : Sp} {E : XK} {i : Nat} {De : Ends} {σ : L2.St} {v : V} (hσ : σ[i]? = some (some v)) (h : sp [v] H (fun _ H1 => De.nx σ H1) E) : tDrop (tCall sp [] E (tCons (tVar i) tNil)) De σ H := ⟨_, hσ, h⟩
abbrev sMRight : Stmt := top 34
abbrev nMRight : List Str := ["_law_stream_here", "_law_things_here", "_law_lots_here", "_law_due", "_law_told", "_law_back"]
theorem scMRight : FnScope nMRight ["_law_stream_here", "_law_things_here", "_law_lots_here"] (defScope sMRight) := ⟨rfl, rfl, rfl, by decide +kernel, rfl, by decide +kernel, by decide +kernel⟩
/-- what the law asks of things and lots -/
structure MeetR (ts : List PyData) (ls : List (List PyData)) : Prop where
  pr : prMeetingL [.list ts, .list (ls.map .list)]
  loose : ∀ dk dl, Lz (.list ts) dk → Lz (.list (ls.map .list)) dl → MeetIs dk dl (lawMeetD ts ls)
  plain : MeetIs (.list ts) (.list (ls.map .list)) (lawMeetD ts ls)
  back : MeetIs (.list ts) (.list ((lawMeetD ts ls).map .list)) (leastOfD ls)
  least : DLeastOf [.list ts, .list (ls.map .list)] (.list ((leastOfD ls).map .list))
  flat : Flat 3 (.list ts) ∧ Flat 3 (.list (ls.map .list)) ∧ nodes (.list ts) ≤ 1000 ∧ nodes (.list (ls.map .list)) ≤ 1000
  rel : Rel 4 (.list [.list ((lawMeetD ts ls).map .list), .list ((lawMeetD ts ls).map .list)]) ∧ Rel 4 (.list ((lawMeetD ts ls).map .list)) ∧ Rel 4 (.list ((leastOfD ls).map .list))
  thg : ∀ l ∈ lawMeetD ts ls, ∀ x ∈ l, thgD x
  num : (lawMeetD ts ls).length ≤ 1000 ∧ ∀ l ∈ lawMeetD ts ls, l.length ≤ 1000
def prMRight (ds : List PyData) : Prop := ∃ ts ls, ds = [.list ts, .list (ls.map .list)] ∧ MeetR ts ls
def DTrue (_ : List PyData) (d : PyData) : Prop := d = .bool true
theorem fn_mright {t : Tb} {CK CL : Addr} (D : Df K mg "_law_meeting_right" sMRight) (FM : FnK P w K mg base (L2.CX P w) "meeting" 6 2 ["lots", "keys"] (fun l => swap2 l) (spMeeting CK CL))
    (FL : Fn P w K mg base CX0 "_law_loose" 5 2 (spS t cLoose (prLoose 3) DLoose)) (FS : Fn P w K mg base CX0 "_law_same" 5 2 (spP (DSame 4))) (FP : Fn P w K mg base CX0 "_law_spoilt" 4 1 (spSpoilt 3))
    (FML : Fn P w K mg base CX0 "_law_meeting" 6 2 (spW t (fun _ => 0) prMeetingL DMeetingL)) (FLO : Fn P w K mg base CX0 "_law_least_of" 2 2 (spP DLeastOf)) :
    Fn P w K mg base CX0 "_law_meeting_right" 7 3 (spS t (fun _ => 2000) prMRight DTrue) := by
  refine D.fn scMRight (by rintro vs H Q E ⟨W, G, ds, n, us, ht, rfl, hG, hcl, hw, hl, hd, ⟨ts, ls, rfl, _⟩, k⟩; have := hd.len; simp at this; simp [this]) rfl (fun _ _ _ _ _ _ us hl => match us, hl with | [_, _, _], _ => rfl) fun f cdv A outer s H vs Q E hr hsp => ?_
  obtain ⟨W, G, ds, n, us, rfl, rfl, hG, hcl, hw, hl, hd, ⟨ts, ls, rfl, R⟩, kq⟩ := hsp
  obtain ⟨u, u2, rfl, du, du2⟩ := hd.two
  refine ⟨_, pss_cons (ps_set (i := 3) scMRight.nd rfl (.inl rfl) (pe_fn FML hr (by rfl) pass0 (pa_cons (pv 1) (pa_cons (pv 2) pa_nil))))
    (pss_cons (ps_set (i := 4) scMRight.nd rfl (.inl rfl) (pe_fn FM.fn hr (by rfl) pass_no (pa_cons (pe_fn FL (hr.mono (by decide)) (by rfl) pass0 (pa_cons (pv 0) (pa_cons (pv 1) pa_nil))) (pa_cons (pe_fn FL (hr.mono (by decide)) (by rfl) pass0 (pa_cons (pv 0) (pa_cons (pv 2) pa_nil))) pa_nil))))
    (pss_cons (ps_if (pt_not (pt_val (pe_fn FS (hr.mono (by decide)) (by rfl) pass0 (pa_cons (pe_lst (pa_cons (pv 4) (pa_cons (pe_fnK0 FM hr pass_no (pk_cons (pv 2) (pk_cons (pv 1) pk_nil))) pa_nil))) (pa_cons (pe_lst (pa_cons (pv 3) (pa_cons (pv 3) pa_nil))) pa_nil))))) (pss_one (ps_ret pe_bl)) pss_nil)
    (pss_cons (ps_set (i := 5) scMRight.nd rfl (.inl rfl) (pe_fn FM.fn hr (by rfl) pass_no (pa_cons (pv 1) (pa_cons (pv 4) pa_nil))))
    (pss_cons (ps_if (pt_not (pt_val (pe_fn FS (hr.mono (by decide)) (by rfl) pass0 (pa_cons (pv 5) (pa_cons (pe_fn FLO (hr.mono (by decide)) (by rfl) pass0 (pa_cons (pv 1) (pa_cons (pv 2) pa_nil))) pa_nil))))) (pss_one (ps_ret pe_bl)) pss_nil)
    (pss_cons (ps_expr (pe_fn FP (hr.mono (by decide)) (by rfl) pass0 (pa_cons (pv 4) pa_nil)) (by rfl))
    (pss_one (ps_ret (pe_fn FS (hr.mono (by decide)) (by rfl) pass0 (pa_cons (pe_fn FM.fn hr (by rfl) pass_no (pa_cons (pv 1) (pa_cons (pv 2) pa_nil))) (pa_cons (pv 3) pa_nil)))))))))), ?_⟩
  have hsz : sizeLine = 16777216 := sizeLine_eq
  refine tSetN_use hG hcl hw (c := 0) (by have := hl; simp at this; omega) (PN_call (DS := (· = [.list ts, .list (ls.map .list)])) (PNA_of (PRA_two (PV du) (PV du2))) (D := (· = .list ((lawMeetD ts ls).map .list))) (c2 := 0) fun ds h => ?_) fun d1 v1 G1 H1 hd1 x1 hw1 dv1 => ?_
  · subst h
    refine ⟨R.pr, Nat.le_refl _, fun d ⟨ts', ls', e, hd⟩ => ?_⟩
    simp only [List.cons.injEq, PyData.list.injEq] at e
    obtain ⟨rfl, e, _⟩ := e
    rw [map_list_inj e]
    exact hd
  subst hd1
  have loose : ∀ (i : Nat) (x : V) (a : PyData) (G' : Hp), Flat 3 a → nodes a ≤ 1000 → [some (V.ref W.st), some u, some u2, some v1, none, none][i]? = some (some x) → Dq G' x a → PN W (tCall (spS W.t cLoose (prLoose 3) DLoose) [] E0 (tCons (tVar 0) (tCons (tVar i) tNil))) [some (.ref W.st), some u, some u2, some v1, none, none] G' (0 + 1000) (fun d => Lz a d) := fun i x a G' h1 h2 h3 h4 =>
    PN_callS (DS := (· = [a])) rfl (PNA_of (PRA_one (PR_var h3 h4))) fun ds e => by
      subst e
      refine ⟨⟨a, rfl, h1⟩, h2, fun d ⟨a', e, z⟩ => ?_⟩
      simp only [List.cons.injEq, and_true] at e
      subst e
      exact z
  obtain ⟨f1, f2, f3, f4⟩ := R.flat
  have hargs := PNA_cons (loose 1 u _ G1 f1 f3 rfl (du.up x1.gg)) (PNA_cons (loose 2 u2 _ G1 f2 f4 rfl (du2.up x1.gg)) PNA_nil)
  refine tSetA_use (hargs H1 _ _ x1.gh x1.cl hw1 (by have := hl; simp at this; omega) fun ds vs G2 H2 hds x2 hw2 dvs => ?_)
  obtain ⟨dk, _, rfl, z1, dl, _, rfl, z2, rfl⟩ := hds
  obtain ⟨vk, vl, rfl, d1, d2⟩ := dvs.two
  refine sp_meet (R.loose dk dl z1 z2) x2.gh d1 d2 fun v2 G3 H3 e3 dv3 => ?_
  have s13 := x2.gg.trans e3.gg
  have du3 := du.up (x1.gg.trans s13)
  have du23 := du2.up (x1.gg.trans s13)
  have dv13 := dv1.up s13
  refine tIf_use (b := !true) (TR_not (TR_tB (PR_call (PRA_two (PR_lst (PRA_two (PR_var (i := 4) rfl (dv3.up cut_sub)) (PRF_meetK R.plain (PRA_two (PR_var (i := 2) rfl du23) (PR_var (i := 1) rfl du3))).pr) (by show 2 ≤ sizeLine; omega)) (PR_lst (PRA_two (PR_var (i := 3) rfl dv13) (PR_var (i := 3) rfl dv13)) (by show 2 ≤ sizeLine; omega))) ⟨_, rfl, rfl, R.rel.1⟩))) e3.gh fun H4 e4 => iteF (nxt ?_)
  refine tSet_use (e3.gh.trans e4) (PRF_meet R.back (PRA_two (PR_var (i := 1) rfl du3) (PR_var (i := 4) rfl (dv3.up cut_sub)))).pr fun v5 G5 H5 e5 d5 => ?_
  refine tIf_use (b := !true) (TR_not (TR_tB (PR_call (PRA_two (PR_var (i := 5) rfl d5) (PR_call (PRA_two (PR_var (i := 1) rfl (du3.up e5.gg)) (PR_var (i := 2) rfl (du23.up e5.gg))) R.least)) ⟨_, rfl, rfl, R.rel.2.2⟩))) e5.gh fun H6 e6 => iteF (nxt ?_)
  refine tDrop1_use (v := v2) rfl ?_
  refine spoilt_use dv3 (cut_sub.trans (e3.gh.trans (e4.trans (e5.hh.trans e6)))) (fun a xs h => cut_new h) R.thg R.num.1 R.num.2 fun H7 q1 q2 => ?_
  have s26 : Same H2 H6 := e3.hh.trans (e4.trans (e5.hh.trans e6))
  have s27 : Same H2 H7 := fun a o e => q1 a o (by rw [e]; simp) (s26 _ _ e)
  have x7 : ExtW W G2 H2 G2 H7 := ⟨fun a o e _ => s27 _ _ e, fun a e => s26.free (q2 a e), Same.refl _, x2.gh.trans s27, fun a h => .inl h, x2.cl⟩
  have hw7 := hw2.up s27
  refine tRet_use x7.gh (PR_call (PRA_two (PRF_meet R.plain (PRA_two (PR_var (i := 1) rfl (du.up (x1.gg.trans x2.gg))) (PR_var (i := 2) rfl (du2.up (x1.gg.trans x2.gg))))).pr (PR_var (i := 3) rfl (dv1.up x2.gg))) ⟨_, rfl, rfl, R.rel.2.1⟩) fun v8 G8 H8 e8 d8 => ?_
  exact kq (.bool true) v8 _ H8 rfl (((x1.trans x2).trans x7).trans (e8.w x2.cl hw7)) ((hw7.up e8.hh).mono (by simp)) (by cases d8; exact .bl true)
end
end K48
set_option Elab.async false
set_option linter.all false
set_option maxRecDepth 100000
set_option maxHeartbeats 4000000
/-! PdTry: several clauses 'except X as n', all with the same name -/
namespace PD
open PySem PySem.Spec PyProof.Rows L2
abbrev Suites := List (Value × (Addr → Value → Option Addr → TS))
/-- what the clauses wish of an exception of the body -/
def wManyAs (K : PySem.W.Frag) (i : Nat) (Wout : WX) (D : Ends) : Suites → WX
  | [] => Wout
  | q :: l => wAs K q.1 i q.2 (wManyAs K i Wout D l) D
inductive HdsAs (X : Cx) (n : Str) : List ExceptHandler → Suites → Prop
  | nil : HdsAs X n [] []
  | cons {x : Str} {c : Value} {ts : Addr → Value → Option Addr → TS} {st : Stmt} {sts : List Stmt} {p1 p2 : Pos} {hds : List ExceptHandler} {l : Suites} : Names X x c →
      (∀ (a : Addr) (o : Obj) (cls : Value) (d : Option Addr) (pn : List (Addr × Obj)), Zc cls d o → (∃ vs, o.data = .fields vs) → PSs (X.suite a ((a, o) :: pn)) (st :: sts) (ts a cls d)) → HdsAs X n hds l →
      HdsAs X n (.ExceptHandler (some (.Name x p1)) (some n) (st :: sts) p2 :: hds) ((c, ts) :: l)
section
variable {X : Cx} {n : Str} {i : Nat} {body : List Stmt} {hd : ExceptHandler} {hds : List ExceptHandler} {l : Suites} {pos : Pos} {tb : WX → TS} {Wout : WX}
theorem ps_try_manyAs (stk : X.stack = X.env :: X.outer) (frm : X.env.frame = some X.env.locals) (nd : X.N.Nodup) (hi : X.N[i]? = some n) (kin : X.env.kindOf n = some .local) (tk : Takes X Wout)
    (hb : ∀ (W : WX) (pn : List (Addr × Obj)) (xe : Value → Shared → Prop), Takes (X.tr pn xe) W → PassesOwn (model X.prog X.w) X.A X.env xe → PSs (X.tr pn xe) body (tb W))
    (hh : HdsAs X n (hd :: hds) l) : PS X (.Try body (hd :: hds) [] [] pos) (fun D σ H => tb (wManyAs X.K i Wout D l) D σ H) := by
  refine ⟨fun pins s σ H D I0 h0 => ?_⟩
  have ok := I0.ok
  have frs0 : X.A.frames = some (X.env :: X.outer) := by rw [ok.frames, stk]
  refine wpAny_Try_except (wpAny_mono ((hb (wManyAs X.K i Wout D l) (X.pn ++ pins) (fun e sh => wpAny (model X.prog X.w) X.A (noteFrame e X.env) (fun _ sh2 => wpAny (model X.prog X.w) X.A (setFlight e none) (fun _ sh3 =>
    wpAny (model X.prog X.w) X.A (handleBy e X.env (hd :: hds)) (SP X pins D) X.xe sh3) X.xe sh2) X.xe sh) (fun u t xx => ?_) PassesOwn.looking).run [] s σ H D (I0.toTry _) h0) (fun fl t sp => ?_) (fun e t he => he))
  · obtain ⟨a, B, sI, pins2, σ', H', cls, d, rfl, J0, nb, up, sky, na, os, ag, wish⟩ := xx
    have J : Inv X pins σ' H' sI := J0.ofTry ok
    have sky2 : Sky B (X.env :: X.outer) a (Zc cls d) X.env.locals t.heap := by rw [← stk]; exact sky
    refine Sky.land Zc.steady frs0 frm sky2 fun g gl gup => ?_
    have Jg : Inv X pins σ' H' { t with heap := g } := J.landed nb gl.1 (up.trans gup) os ag
    obtain ⟨o3, f3, e3, z3, d3⟩ := gl.there
    have notIn : a ∉ frs (X.env :: X.outer) := fun hm => by
      obtain ⟨_, o', e', hnf⟩ := gl.2.2.1.mem hm
      rw [e3] at e'
      cases e'
      exact hnf _ d3
    have nLoc : a ≠ X.env.locals := fun z => notIn (List.mem_filterMap.mpr ⟨X.env, List.mem_cons_self, by rw [frm, z]⟩)
    have nFs : a ∉ X.fs := fun hm => by
      obtain ⟨e, he, q⟩ := List.mem_filterMap.mp hm
      exact notIn (List.mem_filterMap.mpr ⟨e, List.mem_cons_of_mem _ he, q⟩)
    have Sg := Jg.suite e3 d3 na nLoc nFs
    have go : ∀ {hs' : List ExceptHandler} {l' : Suites}, HdsAs X n hs' l' → wManyAs X.K i Wout D l' cls d σ' H' → wpAny (model X.prog X.w) X.A (handleBy (.ref a) X.env hs') (SP X pins D) X.xe { t with heap := g } := by
      intro hs' l' hk
      induction hk with
      | nil =>
        intro wout
        refine wpAny_handleBy_nil ?_
        obtain ⟨_, _, _, o, fs, T, _, _, q1, _, q2, q3, _⟩ := id gl
        unfold PySem.passOn
        refine wpAny_bind (wpAny_field q1 q2 q3 ?_)
        rw [if_neg (show ¬ ((Value.ref T == Value.none) = true) by simp)]
        have out : wpAny (model X.prog X.w) X.A (setFlight (.ref a) X.env.frame) (fun _ t4 => wpAny (model X.prog X.w) X.A (throw (.ref a) : Sem Flow) (SP X pins D) X.xe t4) X.xe { t with heap := g } := by
          rw [frm]
          exact HandSPX.setFlight_upZ gl fun g4 held up4 => wpAny_throw (tk _ _ ⟨a, B, sI, pins, σ', H', cls, d, rfl, J, nb, (up.trans gup).trans up4, .inr (.inr (by rw [stk]; exact held)), na, os, ag, wout⟩)
        first
          | exact wpAny_bind (wpAny_pure (wpAny_bind out))
          | exact wpAny_bind out
      | @cons x c ts st sts p1 p2 hds2 l2 named suite _ ih =>
        intro wish2
        obtain ⟨b, hb1, yes, no⟩ := wish2
        refine wpAny_handleBy_cons (codeAny_handlers_test ?_) (by intro q; cases q)
        have look : PySem.W.Looks (model X.prog X.w) g (typeOf (.ref a)) cls := fun A Q E u k q => wpAny_typeOf_ref (k _ _ e3) (by rw [z3.1]; exact q)
        have match1 := PySem.W.exm_one (M := model X.prog X.w) Jg.kIn look hb1
        have load : ∀ {Q : Value → Shared → Prop} {E : Value → Shared → Prop}, Q c { t with heap := g } → wpAny (model X.prog X.w) (X.A.mark (some (.ref a))) (eval (.Name x p1) X.env) Q E { t with heap := g } := fun {Q E} q => by
          obtain ⟨hg, hdb, hm | ⟨hm, hv, hn⟩⟩ := named
          · exact ld_glob (X := X.suite a ((a, o3) :: (X.pn ++ pins))) Sg hg hm q hdb
          · exact ld_blt (X := X.suite a ((a, o3) :: (X.pn ++ pins))) Sg hg hm hv q hn hdb
        refine load (match1.here ?_)
        cases b with
        | false => exact ih (no rfl)
        | true =>
          refine codeAny_handlers_suite_as (HandSPX.lands_againZ gl fun g4 gl4 up4 => ?_)
          have Jh : Inv X pins σ' H' { t with heap := g4 } := J.landed nb gl4.1 ((up.trans gup).trans up4) os ag
          obtain ⟨o4, f4, e4, z4, d4⟩ := gl4.there
          refine store_ok (X := X.suite a ((a, o4) :: (X.pn ++ pins))) (v := .ref a) (Jh.suite e4 d4 na nLoc nFs) nd hi (.inl kin) rfl (fun t5 S5 => ?_) (.inr kin)
          refine wpAny_mono ((suite a o4 cls d (X.pn ++ pins) z4 ⟨_, d4⟩).run [] t5 _ H' _ S5 (yes rfl a na)) (fun fl t6 sp => ?_) (fun _ _ z => False.elim z)
          have unbound : ∀ {σ6 : L2.St} {H6 : Hp} {Q : Shared → Prop}, Inv (X.suite a ((a, o4) :: (X.pn ++ pins))) [] σ6 H6 t6 → (∀ t7, Inv X pins (σ6.set i none) H6 t7 → Q t7) →
              wpAny (model X.prog X.w) X.A (do bindName X.env n .none; unbindBehindTheSuite X.env n p2) (fun _ t7 => Q t7) X.xe t6 := fun S6 hq => gone_ok (S6.unsuite ok) nd hi kin hq
          cases fl with
          | ret u =>
            obtain ⟨_, σ6, H6, S6, r6, q6⟩ := sp
            exact unbound S6 fun t7 J7 => ⟨_, _, _, J7, r6, q6⟩
          | next => obtain ⟨σ6, H6, S6, q6⟩ := sp; exact unbound S6 fun t7 J7 => ⟨_, _, J7, q6⟩
          | brk => obtain ⟨σ6, H6, S6, q6⟩ := sp; exact unbound S6 fun t7 J7 => ⟨_, _, J7, q6⟩
          | cont => obtain ⟨σ6, H6, S6, q6⟩ := sp; exact unbound S6 fun t7 J7 => ⟨_, _, J7, q6⟩
    exact go hh wish
  · cases fl with
    | ret u => obtain ⟨v, σ', H', J, r, q⟩ := sp; exact ⟨v, σ', H', J.ofTry ok, r, q⟩
    | next => obtain ⟨σ', H', J, q⟩ := sp; exact wpAny_execs_nil ⟨σ', H', J.ofTry ok, q⟩
    | brk => obtain ⟨σ', H', J, q⟩ := sp; exact ⟨σ', H', J.ofTry ok, q⟩
    | cont => obtain ⟨σ', H', J, q⟩ := sp; exact ⟨σ', H', J.ofTry ok, q⟩
end
end PD
set_option Elab.async false
set_option linter.all false
set_option maxRecDepth 100000
set_option maxHeartbeats 4000000
/-! K48q: _law_stream, _law_met -/
namespace K48
open PySem PySem.Spec PyProof.Rows L2 PD StX RZ NdefX LamX
section
variable {P : Program} {w : World} {K : PySem.W.Frag} {mg : Str → Option Value} {base : Heap} {G H G' H' : Hp}
abbrev sStrm : Stmt := top 20
abbrev nStrm : List Str := ["_law_script"]
theorem scStrm : FnScope nStrm ["_law_script"] (defScope sStrm) := ⟨rfl, rfl, rfl, by decide +kernel, rfl, by decide +kernel, by decide +kernel⟩
def spStream (K : PySem.W.Frag) : Sp := fun vs H Q _ => ∃ s xs, vs = [.ref s] ∧ SqL K H s xs ∧ ∀ ce st, H ce = none → H st = none → ce ≠ st → Q (.ref st) (upd (upd H ce (.lst xs)) st (.lst [.ref ce, .int 0, .int 0, .int 17]))
theorem fn_stream (D : Df K mg "_law_stream" sStrm) (m1 : mg "list" = none) : Fn P w K mg base CX0 "_law_stream" 1 1 (spStream K) := by
  refine D.fn scStrm (by rintro vs H Q E ⟨s, xs, rfl, _⟩; rfl) rfl (fun _ _ _ _ _ _ us hl => match us, hl with | [_], _ => rfl) fun f cdv A outer s H vs Q E hr hsp => ?_
  obtain ⟨a, xs, rfl, ha, k⟩ := hsp
  refine ⟨_, pss_one (ps_ret (pe_lst (pa_cons (xe_list (K := K) m1 (pv 0)) (pa_cons pe_int (pa_cons pe_int (pa_cons pe_int pa_nil)))))), ?_⟩
  refine ⟨_, rfl, a, xs, rfl, .inl ha, fun ce hce => ⟨by show 4 ≤ sizeLine; decide, fun st hst => ?_⟩⟩
  have n : ce ≠ st := by rintro rfl; rw [upd_same] at hst; cases hst
  exact k ce st hce (NdefX.upd_none hst) n
/-! ### a call whose exceptions a clause takes -/
def tCallW (P : Program) (w : World) (K : PySem.W.Frag) (mg : Str → Option Value) (base : Heap) (k i : Nat) (W : WX) : TE := fun σ H Q => ∃ f sp, σ[i]? = some (some (.ref f)) ∧ IsFn f H ∧ Cal P w K mg base k f 0 sp ∧ sp [] H Q (fun cls d H' => W cls d σ H')
theorem pe_callW {X : Cx} {k i : Nat} {x : Str} {p pos : Pos} {W : WX} (hr : Room k X.A) (tk : Takes X W) (hN : X.N[i]? = some x) (hv : Vis X.env.scope x) (hd : (x == ("__debug__" : Str)) = false := by decide) (hcd : (x == ("__classdict__" : Str)) = false := by decide) :
    PE X (.Call (.Name x p) [] [] pos) (tCallW X.prog X.w X.K X.mg X.base k i W) := by
  refine ⟨fun pins s σ H Q I0 ⟨f, sp, hs, hf, c, q⟩ => ?_⟩
  refine wpAny_Call_Name_kw (thn ((pe_var (pos := p) hN hv hd hcd).run pins s σ H (fun v H1 => v = .ref f ∧ H1 = H) I0 ⟨.ref f, hs, rfl, rfl⟩) fun u s1 ⟨v, H1, I, r1, ev, eH⟩ => ?_)
  subst ev eH
  obtain rfl : u = Value.ref f := r1
  refine PySem.W.callWith_F0 (first := []) (fnAt_is I hf) (wpAny_call (codeAny_mono (c.run X.A X.stack s1 _ [] [] Q _ hr I.env0 rfl .nil q) fun r s' hq => ?_))
  cases r with
  | error e => exact tk e s' (XE.of_call I (fun cls d H' h => h) hq)
  | ok fl =>
    cases fl with
    | ret u => exact I.after hq
    | next => exact hq.elim
    | brk => exact hq.elim
    | cont => exact hq.elim
abbrev sMet : Stmt := top 36
abbrev nMet : List Str := ["_law_ask_here", "e"]
theorem scMet : FnScope nMet ["_law_ask_here"] (defScope sMet) := ⟨rfl, rfl, rfl, by decide +kernel, rfl, by decide +kernel, by decide +kernel⟩
def spMet (P : Program) (w : World) (K : PySem.W.Frag) (mg : Str → Option Value) (base : Heap) (CK CL : Addr) (k : Nat) : Sp := fun vs H Q _ => ∃ f sp, vs = [.ref f] ∧ IsFn f H ∧ Cal P w K mg base k f 0 sp ∧ ∀ (Q2 : VK) (E2 : XK), (∀ v H1, (∀ p, H1 p = none → Q (.ref p) (upd H1 p (.tup [.str "told", v]))) → Q2 v H1) →
  (∀ cls dx v H1, ((cls = .ref CK ∧ H1 dx = some (.xd [("keyring", v)]) ∧ ∀ p, H1 p = none → Q (.ref p) (upd H1 p (.tup [.str "keys", v]))) ∨ (cls = .ref CL ∧ H1 dx = some (.xd [("lots", v)]) ∧ ∀ p, H1 p = none → Q (.ref p) (upd H1 p (.tup [.str "lots", v])))) → E2 cls (some dx) H1) → sp [] H Q2 E2
theorem fn_met {CK CL : Addr} {k : Nat} (D : Df K mg "_law_met" sMet) (xK : XfC K CK) (xL : XfC K CL) (nK : PySem.W.findIn K (.ref CK) "keyring" = some none) (nL : PySem.W.findIn K (.ref CL) "lots" = some none) (mK : mg "BadKeys" = some (.ref CK)) (mL : mg "BadLots" = some (.ref CL))
    (e1 : PySem.W.exmOne K (.ref CK) (.ref CK) = some true) (e2 : PySem.W.exmOne K (.ref CL) (.ref CK) = some false) (e3 : PySem.W.exmOne K (.ref CL) (.ref CL) = some true) : Fn P w K mg base CX0 "_law_met" (k + 1) 1 (spMet P w K mg base CK CL k) := by
  refine D.fn scMet (by rintro vs H Q E ⟨f, sp, rfl, _⟩; rfl) rfl (fun _ _ _ _ _ _ us hl => match us, hl with | [_], _ => rfl) fun f cdv A outer s H vs Q E hr hsp => ?_
  obtain ⟨fa, sp, rfl, hf, cal, q⟩ := hsp
  refine ⟨_, pss_one (ps_try_manyAs (n := "e") (i := 1) (Wout := fun _ _ _ _ => False) (tb := fun W => tRet (tTup (tCons (tC (.str "told")) (tCons (tCallW P w K mg base k 0 W) tNil)))) rfl rfl scMet.nd rfl rfl (fun u s' ⟨_, _, _, _, _, _, _, _, _, _, _, _, _, _, _, _, z⟩ => z.elim)
    (fun W pn xe tk _ => pss_one (ps_ret (pe_tup (pa_cons pe_str (pa_cons (pe_callW hr tk rfl (.inl rfl)) pa_nil)))))
    (.cons (c := .ref CK) (ts := fun a cls d => tRet (tTup (tCons (tC (.str "keys")) (tCons (tXf a cls d CK "keyring" (tVar 1)) tNil)))) ⟨rfl, rfl, .inl mK⟩ (fun a o cls d pn hz hv => pss_one (ps_ret (pe_tup (pa_cons pe_str (pa_cons (pe_xf xK nK hz hv (pv 1)) pa_nil)))))
      (.cons (c := .ref CL) (ts := fun a cls d => tRet (tTup (tCons (tC (.str "lots")) (tCons (tXf a cls d CL "lots" (tVar 1)) tNil)))) ⟨rfl, rfl, .inl mL⟩ (fun a o cls d pn hz hv => pss_one (ps_ret (pe_tup (pa_cons pe_str (pa_cons (pe_xf xL nL hz hv (pv 1)) pa_nil))))) .nil))), ?_⟩
  have two : 2 ≤ sizeLine := by decide
  refine ⟨fa, sp, rfl, hf, cal, q _ _ (fun v H1 h => ⟨two, h⟩) fun cls dx v H1 h => ?_⟩
  rcases h with ⟨rfl, hx, h⟩ | ⟨rfl, hx, h⟩
  · exact ⟨true, e1, fun _ a _ => ⟨_, rfl, rfl, rfl, dx, _, v, rfl, hx, rfl, two, h⟩, fun z => nomatch z⟩
  · exact ⟨false, e2, (fun z => nomatch z), fun _ => ⟨true, e3, fun _ a _ => ⟨_, rfl, rfl, rfl, dx, _, v, rfl, hx, rfl, two, h⟩, fun z => nomatch z⟩⟩
end
end K48
set_option Elab.async false
set_option linter.all false
set_option maxRecDepth 100000
set_option maxHeartbeats 4000000
/-! PdNest: a nested def of one parameter, some of whose own names are cells -/
namespace PD
open PySem PySem.Spec PyProof.Rows L2 NdefX LamX
/-- its names: the parameter, the captured ones, its locals and own cells -/
structure NSc1 (N : List Str) (p : Str) (fr : List Str) (sc : Scope) : Prop where
  kind : sc.kind = .function
  co : sc.isCoroutine = false
  gen : sc.isGenerator = false
  nd : N.Nodup
  pre : N.take (1 + fr.length) = p :: fr
  par : sc.names.lookup p = some .local ∨ sc.names.lookup p = some .cell
  free : ∀ y ∈ sc.names, y.2 = .free → y.1 ∈ fr
  frk : ∀ x ∈ fr, sc.names.lookup x = some .free
  own : ∀ y ∈ sc.names, y.2 = .cell → y.1 ∉ fr
def nsc1B (N : List Str) (p : Str) (fr : List Str) (sc : Scope) : Bool :=
  decide (sc.kind = .function) && (!sc.isCoroutine && (!sc.isGenerator && (decide N.Nodup && (decide (N.take (1 + fr.length) = p :: fr) && ((decide (sc.names.lookup p = some .local) || decide (sc.names.lookup p = some .cell)) &&
    (sc.names.all (fun y => !decide (y.2 = .free) || decide (y.1 ∈ fr)) && (fr.all (fun x => decide (sc.names.lookup x = some .free)) && sc.names.all fun y => !decide (y.2 = .cell) || !decide (y.1 ∈ fr))))))))
theorem nsc1_by {N : List Str} {p : Str} {fr : List Str} {sc : Scope} (h : nsc1B N p fr sc = true) : NSc1 N p fr sc := by
  unfold nsc1B at h
  simp only [Bool.and_eq_true, Bool.not_eq_true', decide_eq_true_eq, List.all_eq_true, Bool.or_eq_true, decide_eq_false_iff_not] at h
  obtain ⟨h1, h2, h3, h4, h5, h6, h7, h8, h9⟩ := h
  exact ⟨h1, h2, h3, h4, h5, h6, fun y m e => (h7 y m).elim (fun z => absurd e z) id, h8, fun y m e => (h9 y m).elim (fun z => absurd e z) id⟩
theorem cellsFrom_app (cl : List (Str × Addr)) : ∀ (names : List (Str × NameKind)) (n : Nat) (acc : List (Str × Addr)), cellsFrom n names (acc ++ cl) = cellsFrom n names acc ++ cl
  | [], _, _ => rfl
  | (y, k) :: r, n, acc => by
    unfold cellsFrom
    split
    · exact cellsFrom_app cl r (n + 1) ((y, n) :: acc)
    · exact cellsFrom_app cl r n acc
theorem cellsFrom_names : ∀ (names : List (Str × NameKind)) (n : Nat) (acc : List (Str × Addr)) (y : Str) (c : Addr), (y, c) ∈ cellsFrom n names acc → (y, c) ∈ acc ∨ (y, NameKind.cell) ∈ names
  | [], _, _, _, _, h => .inl h
  | (z, k) :: r, n, acc, y, c, h => by
    unfold cellsFrom at h
    split at h
    · rename_i hk
      rcases cellsFrom_names r (n + 1) _ y c h with q | q
      · rcases List.mem_cons.mp q with e | q
        · cases e; exact .inr (by rw [beq_iff_eq.mp hk]; exact List.mem_cons_self)
        · exact .inl q
      · exact .inr (List.mem_cons_of_mem _ q)
    · exact (cellsFrom_names r n acc y c h).imp_right (List.mem_cons_of_mem _)
abbrev ownC (F : NF) (L : Addr) : List (Str × Addr) := cellsFrom (L + 1) F.scope.names []
abbrev envN (F : NF) (f L : Addr) : Env := PySem.W.envX F.qual F.scope L f (.ref F.c) (ownC F L ++ F.cl)
/-- the context of its body, at its entry -/
def ncx1 (CX : CXT) (P : Program) (w : World) (K : PySem.W.Frag) (mg : Str → Option Value) (base : Heap) (N : List Str) (F : NF) (f : Addr) (A : Around) (outer : List Env) (s : Shared) (H : Hp) (E : XK) : Cx where
  prog := P
  w := w
  K := K
  mg := mg
  base := base
  A := A.deeper (envN F f s.heap.objs.size)
  N := N
  s_0 := s
  H_0 := H
  env := envN F f s.heap.objs.size
  outer := outer
  stack := envN F f s.heap.objs.size :: outer
  ex := []
  calm := true
  fn := fun y => decide (F.scope.names.lookup y = some .cell)
  pn := []
  xe := fun e s' => wpAny (model P w) (A.deeper (envN F f s.heap.objs.size)) (leaving (envN F f s.heap.objs.size) e) (fun _ s2 => CX outer H s E e s2) (fun e' s2 => CX outer H s E e' s2) s'
section
variable {CX : CXT} {P : Program} {w : World} {K : PySem.W.Frag} {mg : Str → Option Value} {base : Heap} {N fr : List Str} {p : Str} {F : NF} {f : Addr} {A : Around} {outer : List Env} {s : Shared} {H : Hp} {E : XK} {ws : List (Option V)} {k : Nat} {sp : List (Option V) → Sp}
theorem look_app {l l' : List (Str × Addr)} {y : Str} {c : Addr} (h : (l ++ l').lookup y = some c) : l.lookup y = some c ∨ (l.lookup y = none ∧ l'.lookup y = some c) := by
  rw [List.lookup_append] at h
  cases q : l.lookup y with
  | none => rw [q] at h; exact .inr ⟨rfl, by simpa using h⟩
  | some d => rw [q] at h; exact .inl (by simpa using h)
abbrev heapN (F : NF) (s : Shared) : Heap := pushCells (s.heap.push { cls := .type "frame", data := .dict #[] }) F.scope.names
theorem inv_none (S : NSc1 N p fr F.scope) (hd : A.handled = none) (e0 : Env0 P w K mg base A outer s H) (C : CellsAt F.cl fr ws s.heap H) :
    Inv (ncx1 CX P w K mg base N F f A outer s H E) [] (none :: (ws ++ List.replicate (N.length - 1 - ws.length) none)) H { s with heap := heapN F s } := by
  have clen := C.len
  have hpl : 1 + fr.length ≤ N.length := by
    have q := congrArg List.length S.pre
    rw [List.length_take, List.length_cons] at q
    omega
  have sub := cellsFrom_ok F.scope.names (s.heap.push { cls := .type "frame", data := .dict #[] }) (s.heap.objs.size + 1) [] ⟨fun _ _ hm => (nomatch hm), List.Pairwise.nil⟩ (by rw [Heap.size_push]; exact Nat.le_refl _)
  rw [Heap.size_push] at sub
  have kp : ∀ b o, s.heap.get? b = some o → (heapN F s).get? b = some o := fun b o e => pushCells_keeps _ _ b o (Heap.get?_push_of_some _ e)
  have cellK : ∀ {c : Addr} {v : Option Value}, s.heap.IsCell c v → (heapN F s).IsCell c v := fun {c v} ⟨o, ho, hd⟩ => ⟨o, kp _ _ ho, hd⟩
  have old : ∀ y c, F.cl.lookup y = some c → c < s.heap.objs.size := fun y c e => by
    obtain ⟨v, o, ho, _⟩ := (C.all y c e).2
    exact Heap.lt_size ho
  have new : ∀ y c, (ownC F s.heap.objs.size).lookup y = some c → (heapN F s).IsCell c none ∧ s.heap.objs.size + 1 ≤ c := fun y c e => sub.empty y c (PySem.mem_of_lookup e)
  have ownFr : ∀ y ∈ fr, (ownC F s.heap.objs.size).lookup y = none := fun y hy => by
    cases q : (ownC F s.heap.objs.size).lookup y with
    | none => rfl
    | some c =>
      rcases cellsFrom_names _ _ _ _ _ (PySem.mem_of_lookup q) with z | z
      · cases z
      · exact absurd hy (S.own _ z rfl)
  have noA : ∀ b : Addr, b ∉ (ncx1 CX P w K mg base N F f A outer s H E).ex := fun b z => absurd (show b ∈ ([] : List Addr) from z) (by simp)
  refine ⟨⟨e0.mod, S.kind, rfl, rfl, Nat.le_refl _, fun y z c h1 h2 => ?_, fun y hy => ?_, fun y c hf h => ?_, fun _ => hd, Around.frames_deeper e0.frames, .inr ⟨rfl, rfl⟩, fun b z => absurd z (noA b), e0.bs, e0.bsz, fun b _ _ => noA b, fun b z => absurd z (noA b), e0.funs, e0.frf⟩,
    rfl, e0.bare, Un.kept kp, ⟨_, (Heap.Ns.new s.heap (.type "frame")).keeps (pushCells_keeps _ _), fun i y v h1 h2 h3 => ?_⟩, fun y c h => ?_, e0.hok.fresh (Nat.le_refl _), fun y c h => ?_, fun q hq => absurd (show q ∈ ([] : List (Addr × Obj)) ++ [] from hq) (by simp), e0.hok.kept kp, ?_⟩
  · rcases look_app h1 with h1 | ⟨_, h1⟩ <;> rcases look_app h2 with h2 | ⟨_, h2⟩
    · exact name_of_addr sub.apart (PySem.mem_of_lookup h1) (PySem.mem_of_lookup h2)
    · exact (Nat.lt_irrefl _ (Nat.lt_trans (old _ _ h2) (new _ _ h1).2)).elim
    · exact (Nat.lt_irrefl _ (Nat.lt_trans (old _ _ h1) (new _ _ h2).2)).elim
    · exact C.inj _ _ _ h1 h2
  · have hy : F.scope.names.lookup y = some .cell ∨ F.scope.names.lookup y = some .free := hy
    show ∃ c, (ownC F s.heap.objs.size ++ F.cl).lookup y = some c
    rw [List.lookup_append]
    rcases hy with hy | hy
    · obtain ⟨c, e⟩ := cell_has (n := s.heap.objs.size + 1) hy
      exact ⟨c, by rw [show (ownC F s.heap.objs.size).lookup y = some c from e]; rfl⟩
    · obtain ⟨i, hi⟩ := List.mem_iff_getElem?.mp (S.free _ (PySem.mem_of_lookup hy) rfl)
      obtain ⟨c, hc, _⟩ := C.has i y hi
      exact ⟨c, by rw [ownFr y (List.mem_of_getElem? hi), hc]; rfl⟩
  · have hf : F.scope.names.lookup y = some .cell := of_decide_eq_true hf
    show s.heap.objs.size ≤ c
    rcases look_app h with h | ⟨h0, _⟩
    · have := (new _ _ h).2; omega
    · obtain ⟨c', e⟩ := cell_has (n := s.heap.objs.size + 1) hf
      rw [show (ownC F s.heap.objs.size).lookup y = some c' from e] at h0
      cases h0
  · have h1 : N[i]? = some y := h1
    cases i with
    | zero => cases h2
    | succ i =>
      rw [List.getElem?_cons_succ] at h2
      by_cases hi : i < ws.length
      · rw [List.getElem?_append_left hi] at h2
        have hq : fr[i]? = some y := by
          have q : (N.take (1 + fr.length))[i + 1]? = some y := by rw [List.getElem?_take_of_lt (by omega)]; exact h1
          rw [S.pre] at q
          simpa using q
        obtain ⟨c, hc, hv⟩ := C.has i y hq
        obtain ⟨u, ru, hu⟩ := hv v h2
        have hy := List.mem_of_getElem? hq
        refine ⟨u, ru, .inr ⟨.inr (S.frk y hy), c, ?_, cellK hu⟩⟩
        show (ownC F s.heap.objs.size ++ F.cl).lookup y = some c
        rw [List.lookup_append, ownFr y hy, hc]
        rfl
      · rw [List.getElem?_append_right (by omega), List.getElem?_replicate] at h2
        split at h2 <;> cases h2
  · rcases look_app h with h | ⟨_, h⟩
    · exact ⟨_, (new _ _ h).1⟩
    · obtain ⟨v, z⟩ := (C.all y c h).2
      exact ⟨v, cellK z⟩
  · rcases look_app h with h | ⟨_, h⟩
    · have := (new _ _ h).2
      exact e0.hok.fresh (by omega)
    · exact (C.all y c h).1
  · show _ = N.length
    rw [List.length_cons, List.length_append, List.length_replicate]
    omega
/-- what its captured cells hold, its argument -/
theorem new_env {vals : List (Str × Value)} {M : Model} {EE : Value → Shared → Prop} {QQ : Env → Shared → Prop} (s : Shared) (h : wpAny M A (forIn vals PUnit.unit fun (x : Str × Value) (_ : PUnit) => do storeName (envN F f s.heap.objs.size) x.1 x.2; pure (ForInStep.yield PUnit.unit)) (fun _ s' => QQ (envN F f s.heap.objs.size) s') EE { s with heap := heapN F s }) :
    wpAny M A (newFunctionEnv F.scope mainGlobals F.cl vals (F.qual ++ ".<locals>.") (some f) (.ref F.c) none builtinsNs) QQ EE s := by
  simp only [newFunctionEnv, Option.isSome_none, Bool.false_eq_true, if_false]
  refine wpAny_bind (wpAny_alloc ?_)
  refine wpAny_bind (wpAny_layCells _ (fun name kind cells => by cases hkc : kind == NameKind.cell <;> simp [hkc]) _ _ _ _ ?_)
  rw [show ({ s with heap := s.heap.push { cls := .type "frame", data := .dict #[] } } : Shared).heap.objs.size = s.heap.objs.size + 1 from Heap.size_push ..]
  rw [show cellsFrom (s.heap.objs.size + 1) F.scope.names F.cl = ownC F s.heap.objs.size ++ F.cl from cellsFrom_app F.cl F.scope.names _ []]
  exact wpAny_bind (wpAny_mono h (fun _ s' q => wpAny_pure q) fun _ _ q => q)
/-- THE RULE: a nested def of one parameter, by its body -/
theorem nok1_of (S : NSc1 N p fr F.scope) (hb : ∀ (doc pm ctv : Value) (us : List Value), us.length = 1 → bindArgs (F.fd doc pm ctv) ⟨us, []⟩ = pure ([p].zip us)) (len : ∀ ws vs H Q E, sp ws vs H Q E → vs.length = 1)
    (hbody : ∀ (A : Around) (outer : List Env) (s : Shared) (H : Hp) (v : V) (ws : List (Option V)) (Q : VK) (E : XK), Room k (A.deeper (envN F f s.heap.objs.size)) → H f = some (FnO f F) → H F.c = some (CodeO F.c F.qual) → ws.length = fr.length → sp ws [v] H Q E →
      ∃ t, PSs (ncx1 CX P w K mg base N F f A outer s H E) F.body t ∧ t { nx := fun _ H' => Q .non H', rt := Q } (some v :: (ws ++ List.replicate (N.length - 1 - ws.length) none)) H) :
    NOk P w K mg base CX (k + 1) f F [p] fr sp := by
  refine ⟨len, fun A outer s H us vs ws Q E hr e0 hf hc C r hsp => ?_⟩
  have hl := len _ _ _ _ _ hsp
  obtain ⟨v, rfl⟩ : ∃ v, vs = [v] := match vs, hl with | [v], _ => ⟨v, rfl⟩
  obtain ⟨u, rfl, ru⟩ : ∃ u, us = [u] ∧ L2.RelV v u := by
    cases r with
    | cons h t => cases t; exact ⟨_, rfl, h⟩
  have lim : s.heap.NoLimit := e0.mod.nolimit.keeps fun b o e => (e0.bs b o e).1
  obtain ⟨od, sl, doc, pm, ctv, ho⟩ := fnO_at e0.hok hf
  refine codeAny_call_function hr.depth ho rfl S.co S.gen rfl (codeO_at e0.hok hc) ?_
  rw [hb doc pm ctv [u] rfl]
  refine wpAny_pure (new_env s ?_)
  have I0 := inv_none (CX := CX) (f := f) (E := E) S hr.hd e0 C
  have hpN : N[0]? = some p := by
    have q : (N.take (1 + fr.length))[0]? = some p := by rw [S.pre]; rfl
    rwa [List.getElem?_take_of_lt (by omega)] at q
  show wpAny _ _ (forIn [(p, u)] _ _) _ _ _
  rw [List.forIn_cons]
  have hL : Loc F.scope p := S.par
  refine wpAny_bind (wpAny_bind (store_ok I0 S.nd hpN hL ru (fun s2 I => wpAny_pure (wpAny_pure ?_)) ?_))
  · have l2 : s2.heap.NoLimit := I.ok.mod.nolimit.keeps I.bk
    refine ⟨l2, codeAny_func ?_⟩
    obtain ⟨t, ht, hq⟩ := hbody A outer s H v ws Q E (hr.deeper _) hf hc C.len hsp
    refine wpAny_mono (ht.run [] s2 _ H _ I hq) (fun fl s' hs => ?_) fun e s' hs => hs
    have fin : ∀ {σ' : L2.St} {H' : Hp} {v : V} {u : Value}, Inv (ncx1 CX P w K mg base N F f A outer s H E) [] σ' H' s' → L2.RelV v u → Q v H' → CE outer P w H s Q u s' :=
      fun {σ' H' v u} J rv q => ⟨v, H', J.os, J.bare, J.base, J.hok, rv, q⟩
    cases fl with
    | ret u =>
      obtain ⟨v, σ', H', J, rv, q⟩ := hs
      exact fin J rv q
    | next =>
      obtain ⟨σ', H', J, q⟩ := hs
      exact fin (v := V.non) (u := Value.none) J rfl q
    | brk =>
      obtain ⟨_, _, _, q⟩ := hs
      exact False.elim q
    | cont =>
      obtain ⟨_, _, _, q⟩ := hs
      exact False.elim q
  · rcases S.par with z | z
    · exact .inr z
    · exact .inl (decide_eq_true z)
end
end PD
set_option Elab.async false
set_option linter.all false
set_option maxRecDepth 100000
set_option maxHeartbeats 4000000
/-! K48r: the function asked in _law_charted_right -/
namespace K48
open PySem PySem.Spec PyProof.Rows L2 PD StX RZ NdefX LamX
section
variable {P : Program} {w : World} {K : PySem.W.Frag} {mg : Str → Option Value} {base : Heap} {G H G' H' : Hp}
abbrev sCRight : Stmt := top 35
abbrev sAsk : Stmt := stAt (defBody sCRight) 1
abbrev frAsk : List Str := ["_law_asked", "_law_lots_here", "_law_things_here", "_law_wrong"]
abbrev nAsk : List Str := ["_law_some", "_law_asked", "_law_lots_here", "_law_things_here", "_law_wrong", "_law_found", "_law_lot"]
theorem scAsk : NSc1 nAsk "_law_some" frAsk (C8.fnScope sAsk) := nsc1_by (by decide +kernel)
abbrev FAsk (q : Str) (cl : List (Str × Addr)) (c : Addr) : NF := NF.of sAsk "_law_ask" q cl c
/-- what the lots say of a list -/
def askD (ls : List (List PyData)) (l : List PyData) : Bool := ls.any fun lot => withinD lot l
structure AskR (ts : List PyData) (ls : List (List PyData)) (l : List PyData) : Prop where
  kin : Kin ts
  num : ts.length ≤ 1000
  lkin : Kin l
  lnum : l.length ≤ 1000
  srt : PyData.eqv (.list l) (.list (sortD l)) = true
  inn : withinD l (sortD ts) = true
  lots : KinL ts ls
  few : ls.length ≤ 1000
  each : ∀ o ∈ ls, o.length ≤ 1000
def spAsk : List (Option V) → Sp := fun ws vs H Q _ => ∃ (aA aW p : Addr) (vl vt : V) (rs xs : List V) (l ts : List PyData) (ls : List (List PyData)) (G : Hp), ws = [some (.ref aA), some vl, some vt, some (.ref aW)] ∧ vs = [.ref p] ∧ H p = some (.lst xs) ∧ H aA = some (.lst rs) ∧ H aW = some (.lst []) ∧ p ≠ aA ∧ p ≠ aW ∧ aA ≠ aW ∧
  Same G H ∧ G p = none ∧ G aA = none ∧ G aW = none ∧ DqAll G xs l ∧ Dq G vl (.list (ls.map .list)) ∧ Dq G vt (.list ts) ∧ AskR ts ls l ∧ rs.length < sizeLine ∧
  ∀ c H', H c = none → H' aA = some (.lst (rs ++ [.ref c])) → H' c = some (.lst xs) → (∀ a o, H a = some o → a ≠ p → a ≠ aA → H' a = some o) → (∀ a, H' a = none → H a = none) → Q (.bl (askD ls l)) H'
theorem ask_nok {q : Str} {cl : List (Str × Addr)} {f c : Addr} (FW : Fn P w K mg base CX0 "_law_within" 1 2 (spP DWithin)) (m1 : mg "any" = none) (m2 : mg "isinstance" = none) (m3 : mg "list" = none) (m4 : mg "sorted" = none) :
    NOk P w K mg base (L2.CX P w) 2 f (FAsk q cl c) ["_law_some"] frAsk spAsk := by
  refine nok1_of (k := 1) (N := nAsk) scAsk (fun _ _ _ us hl => match us, hl with | [_], _ => rfl) (by rintro ws vs H Q E ⟨aA, aW, p, vl, vt, rs, xs, l, ts, ls, G, rfl, rfl, _⟩; rfl) fun A outer s H v ws Q E hr hf hc hw hsp => ?_
  obtain ⟨aA, aW, p, vl, vt, rs, xs, l, ts, ls, G, rfl, ev, hp, hA, hW, n1, n2, n3, hG, gp, gA, gW, dl, dlo, dt, R, hrs, k⟩ := hsp
  obtain rfl : v = .ref p := by simpa using ev
  have hu := hr.u65
  have hsz : sizeLine = 16777216 := sizeLine_eq
  refine ⟨_, pss_cons (xs_extend (pv 4) (pe_ifExp (pw_and (pt_val (xe_isi (K := K) m2 m3 (U := "list") (by decide +kernel) (pv 0))) (pw_and (xt_eq (K := K) hu (pv 0) (xe_sorted (K := K) m4 hu (pv 0))) (pw_and1 (pt_val (pe_fn FW hr (by rfl) pass0 (pa_cons (pv 0) (pa_cons (xe_sorted (K := K) m4 hu (pv 3)) pa_nil))))))).pt (pe_lst pa_nil) (pe_lst (pa_cons (pv 0) pa_nil))))
    (pss_cons (xs_append (pv 1) (xe_list (K := K) m3 (pv 0)))
    (pss_cons (ps_set (i := 5) scAsk.nd rfl (.inl rfl) (xe_any (K := K) m1 (xe_lc1 (tt := tYes) nAsk (C8.fnScope sAsk) 6 (pi_list (pv 2)) (by decide +kernel) scAsk.nd (.inr rfl) (fun _ _ _ _ _ => pts_nil)
      (fun _ _ _ _ _ => pe_fn FW hr (by rfl) pass0 (pa_cons (pv 6) (pa_cons (pv 0) pa_nil))))))
    (pss_cons (xs_append (pv 0) pe_str)
    (pss_one (ps_ret (pv 5)))))), ?_⟩
  have hGp : Same (upd G p (.lst xs)) H := fun a o e => by
    by_cases z : a = p
    · subst z; rw [upd_same] at e; cases e; exact hp
    · rw [upd_ne z] at e; exact hG _ _ e
  have gsub : Same G (upd G p (.lst xs)) := same_new gp
  have dp : Dq (upd G p (.lst xs)) (.ref p) (.list l) := .lst upd_same (dl.up gsub)
  have dlo' := dlo.up gsub
  have dt' := dt.up gsub
  have lx : xs.length = l.length := dl.len
  -- _law_wrong.extend(..)
  refine ⟨_, rfl, .inl ⟨rfl, [], SqL.of hW⟩, PR_if (b := true && (PyData.eqv (.list l) (.list (sortD l)) && withinD l (sortD ts))) (d := .list []) (TR_and (TR_tB (PR_isi (PR_var rfl dp) (kitL _))) fun _ => TR_and (TR_test (PR_op (RR2_eq (R.lkin.shL.list.shaped (by decide)) (Sh.shaped (ShL.list (n := 3) fun d hd => R.lkin.shL d (sortD_mem.mp hd)) (by decide))) (PR_var rfl dp) (PR_CB (RR_sorted R.lkin.sortOk) (PRA_one (PR_var rfl dp)))))
    fun _ => TR_tB (PR_call (PRA_two (PR_var rfl dp) (PR_CB (RR_sorted R.kin.sortOk) (PRA_one (PR_var rfl dt')))) ⟨l, sortD ts, rfl, rfl, R.lkin.shL.mono (by decide), fun d hd => (R.kin.shL d (sortD_mem.mp hd)).mono (by decide), R.lnum⟩)) (fun _ => PR_lst PRA_nil (by simp)) (fun z => by rw [R.srt, R.inn] at z; cases z) H _ hGp fun v G1 H1 e1 dv => ?_⟩
  cases dv with
  | lst ha hall =>
    cases hall
    refine ⟨aW, _, [], [], rfl, rfl, e1.hh _ _ hW, e1.gh _ _ ha, by simp, ?_⟩
    have s2 : Same H (upd H1 aW (.lst ([] ++ []))) := fun a o e => by
      by_cases z : a = aW
      · subst z; rw [hW] at e; cases e; exact upd_same
      · rw [upd_ne z]; exact e1.hh _ _ e
    generalize upd H1 aW (.lst ([] ++ [])) = H2 at s2
    -- _law_asked.append(list(_law_some))
    refine ⟨_, rfl, .inl ⟨rfl, rs, SqL.of (s2 _ _ hA)⟩, ⟨_, rfl, p, xs, rfl, .inl (SqL.of (s2 _ _ hp)), fun c hc => ?_⟩⟩
    have cA : aA ≠ c := ne_of_none (s2 _ _ hA) hc
    have cp : p ≠ c := ne_of_none (s2 _ _ hp) hc
    have cW : aW ≠ c := ne_of_none (s2 _ _ hW) hc
    refine ⟨aA, rs, .ref c, rfl, rfl, by rw [upd_ne cA]; exact s2 _ _ hA, hrs, ?_⟩
    have hG4 : Same (upd G p (.lst xs)) (upd (upd H2 c (.lst xs)) aA (.lst (rs ++ [.ref c]))) := fun a o e => by
      have q := s2 _ _ (hGp _ _ e)
      have nA : a ≠ aA := fun z => by
        rw [z, upd_ne n1.symm, gA] at e; cases e
      rw [upd_ne nA, upd_ne (ne_of_none q hc)]
      exact q
    -- _law_found = any(..)
    refine tSet_use hG4 (PR_any (bs := ls) (q := fun lot => withinD lot l) (PR_map1 (enc := PyData.list) (WR_list (PR_var rfl dlo')) (fun _ => rfl) (fun G3 lot u h3 hl du => PR_call (PRA_two (PR_var rfl du) (PR_var rfl (dp.up h3))) ⟨lot, l, rfl, rfl, fun d hd => (R.lots.1.shL d (R.lots.2 lot hl d hd)).mono (by decide), R.lkin.shL.mono (by decide), R.each lot hl⟩) (by have := R.few; omega))) fun v5 G5 H5 e5 d5 => ?_
    have p5 : H5 p = some (.lst xs) := e5.hh _ _ (by rw [upd_ne n1, upd_ne cp]; exact s2 _ _ hp)
    -- _law_some.append("late")
    refine ⟨_, rfl, .inl ⟨rfl, xs, SqL.of p5⟩, p, xs, _, rfl, rfl, p5, by have := R.lnum; omega, ?_⟩
    cases d5
    refine ⟨_, rfl, k c _ (s2.free hc) ?_ ?_ (fun a o e h1 h2 => ?_) fun a e => ?_⟩
    · rw [upd_ne n1.symm]; exact e5.hh _ _ upd_same
    · rw [upd_ne cp.symm]; exact e5.hh _ _ (by rw [upd_ne cA.symm]; exact upd_same)
    · rw [upd_ne h1]
      exact e5.hh _ _ (by rw [upd_ne h2, upd_ne (ne_of_none (s2 _ _ e) hc)]; exact s2 _ _ e)
    · exact s2.free (NdefX.upd_none (NdefX.upd_none (e5.hh.free (NdefX.upd_none e))))
end
end K48
set_option Elab.async false
set_option linter.all false
set_option maxRecDepth 100000
set_option maxHeartbeats 4000000
/-! M48a: mathematics: lists of things as sets; the least ones of a list of lists -/
namespace K48
open PySem PySem.Spec PyProof.Rows L2 PD StX RZ
/-! ### the order -/
theorem leD_toks {x y : PyData} (h1 : leD x y = true) (h2 : leD y x = true) : PySem.W.keyToks x = PySem.W.keyToks y := by
  unfold leD at h1 h2
  simp only [Bool.not_eq_true'] at h1 h2
  exact PyProof.Rows.lex_total (O := PyProof.Rows.itemOrd) _ _ h2 h1
theorem toks_eq {x y : PyData} (h : PySem.W.alike x y = true) (e : PySem.W.keyToks x = PySem.W.keyToks y) : PyData.eqv x y = true := by
  cases q : PyData.eqv x y with
  | true => rfl
  | false =>
    have z := (PySem.W.toks_eqv x y h).2 q [] [.inl 0]
    rw [e, PySem.W.lex_pre] at z
    have r : PyProof.Rows.lexLt PyProof.Rows.itemOrd (PySem.W.keyToks y) (PySem.W.keyToks y) = false := PyProof.Rows.lex_irrefl (O := PyProof.Rows.itemOrd) _
    rw [r] at z
    cases z
theorem leD_eqv {x y : PyData} (h : PySem.W.alike x y = true) (h1 : leD x y = true) (h2 : leD y x = true) : PyData.eqv x y = true := toks_eq h (leD_toks h1 h2)
theorem strs_eqv : ∀ as bs : List Str, PyData.eqvAll (as.map .str) (bs.map .str) = true ↔ as = bs
  | [], [] => by simp [PyData.eqvAll]
  | [], _ :: _ => by simp [PyData.eqvAll]
  | _ :: _, [] => by simp [PyData.eqvAll]
  | a :: as, b :: bs => by
    simp only [List.map_cons, PyData.eqvAll, PyData.eqv, Bool.and_eq_true, List.cons.injEq, strs_eqv as bs, beq_iff_eq]
theorem thg_eqv {x y : PyData} (hx : thgD x) (hy : thgD y) : PyData.eqv x y = true ↔ x = y := by
  rcases hx with ⟨s, rfl⟩ | ⟨s, rfl⟩ <;> rcases hy with ⟨t, rfl⟩ | ⟨t, rfl⟩
  · simp [PyData.eqv]
  · simp [PyData.eqv]
  · simp [PyData.eqv]
  · rw [PyData.eqv, strs_eqv]
    constructor
    · rintro rfl; rfl
    · intro e
      have e := PyData.tuple.inj e
      exact (List.map_inj_right fun a b q => PyData.str.inj q).mp e
theorem thgs_eqv : ∀ {as bs : List PyData}, (∀ x ∈ as, thgD x) → (∀ x ∈ bs, thgD x) → (PyData.eqvAll as bs = true ↔ as = bs)
  | [], [], _, _ => by simp [PyData.eqvAll]
  | [], _ :: _, _, _ => by simp [PyData.eqvAll]
  | _ :: _, [], _, _ => by simp [PyData.eqvAll]
  | a :: as, b :: bs, h1, h2 => by
    rw [PyData.eqvAll, Bool.and_eq_true, thg_eqv (h1 a (List.mem_cons_self ..)) (h2 b (List.mem_cons_self ..)), thgs_eqv (fun x m => h1 x (List.mem_cons_of_mem _ m)) (fun x m => h2 x (List.mem_cons_of_mem _ m)), List.cons.injEq]
/-- a base of things -/
structure Fam (A : List PyData) : Prop where
  nd : A.Nodup
  kin : Kin A
  thg : ∀ x ∈ A, thgD x
  few : A.length ≤ 6
section
variable {A : List PyData}
theorem Fam.eqv (F : Fam A) {x y : PyData} (hx : x ∈ A) (hy : y ∈ A) : PyData.eqv x y = true ↔ x = y := thg_eqv (F.thg x hx) (F.thg y hy)
theorem Fam.eqvL (F : Fam A) {a b : List PyData} (ha : a ⊆ A) (hb : b ⊆ A) : PyData.eqv (.list a) (.list b) = true ↔ a = b := by
  rw [PyData.eqv]
  exact thgs_eqv (fun x m => F.thg x (ha m)) fun x m => F.thg x (hb m)
theorem Fam.anti (F : Fam A) {x y : PyData} (hx : x ∈ A) (hy : y ∈ A) (h1 : leD x y = true) (h2 : leD y x = true) : x = y := (F.eqv hx hy).mp (leD_eqv (F.kin.1 x hx y hy) h1 h2)
theorem Fam.antiL (F : Fam A) {a b : List PyData} (ha : a ⊆ A) (hb : b ⊆ A) (h1 : leD (.list a) (.list b) = true) (h2 : leD (.list b) (.list a) = true) : a = b := by
  refine (F.eqvL ha hb).mp (leD_eqv ?_ h1 h2)
  rw [PySem.W.alike]
  exact alikeAll_of fun x hx y hy => F.kin.1 x (ha hx) y (hb hy)
theorem Fam.has (F : Fam A) {l : List PyData} {x : PyData} (hl : l ⊆ A) (hx : x ∈ A) : hasD l x = true ↔ x ∈ l := by
  unfold hasD
  rw [List.any_eq_true]
  constructor
  · rintro ⟨z, hz, e⟩
    rw [(F.eqv (hl hz) hx).mp e] at hz
    exact hz
  · intro h
    exact ⟨x, h, (F.eqv hx hx).mpr rfl⟩
theorem Fam.hasL (F : Fam A) {L : List (List PyData)} {x : List PyData} (hl : ∀ l ∈ L, l ⊆ A) (hx : x ⊆ A) : hasD (L.map .list) (.list x) = true ↔ x ∈ L := by
  unfold hasD
  rw [List.any_eq_true]
  constructor
  · rintro ⟨z, hz, e⟩
    obtain ⟨l, hm, rfl⟩ := List.mem_map.mp hz
    rw [(F.eqvL (hl l hm) hx).mp e] at hm
    exact hm
  · intro h
    exact ⟨.list x, List.mem_map.mpr ⟨x, h, rfl⟩, (F.eqvL hx hx).mpr rfl⟩
theorem Fam.within (F : Fam A) {l m : List PyData} (hl : l ⊆ A) (hm : m ⊆ A) : withinD l m = true ↔ l ⊆ m := by
  unfold withinD
  rw [List.all_eq_true]
  exact ⟨fun h x hx => (F.has hm (hl hx)).mp (h x hx), fun h x hx => (F.has hm (hl hx)).mpr (h hx)⟩
theorem Fam.meets (F : Fam A) {l m : List PyData} (hl : l ⊆ A) (hm : m ⊆ A) : meetsD l m = true ↔ ∃ x, x ∈ l ∧ x ∈ m := by
  unfold meetsD
  rw [List.any_eq_true]
  exact ⟨fun ⟨x, hx, e⟩ => ⟨x, hx, (F.has hm (hl hx)).mp e⟩, fun ⟨x, hx, e⟩ => ⟨x, hx, (F.has hm (hl hx)).mpr e⟩⟩
/-! ### sets -/
theorem sortD_sorted (l : List PyData) : (sortD l).Pairwise fun a b => leD a b = true := List.pairwise_mergeSort leD_trans leD_total l
theorem sortD_perm (l : List PyData) : (sortD l).Perm l := List.mergeSort_perm l _
theorem sortLD_perm (l : List (List PyData)) : (sortLD l).Perm l := List.mergeSort_perm l _
theorem sortLD_sorted (l : List (List PyData)) : (sortLD l).Pairwise fun a b => leD (.list a) (.list b) = true := List.pairwise_mergeSort (le := fun a b => leD (.list a) (.list b)) (fun a b c => leD_trans _ _ _) (fun a b => leD_total _ _) l
/-- an ascending list of things, each once -/
structure Can (A l : List PyData) : Prop where
  nd : l.Nodup
  srt : l.Pairwise fun a b => leD a b = true
  sub : l ⊆ A
theorem Can.sorted {l : List PyData} (c : Can A l) : sortD l = l := List.mergeSort_of_pairwise c.srt
theorem can_sort {l : List PyData} (h : l.Nodup) (s : l ⊆ A) : Can A (sortD l) := ⟨(sortD_perm l).nodup_iff.mpr h, sortD_sorted l, fun x hx => s (sortD_mem.mp hx)⟩
theorem Can.ext (F : Fam A) {l m : List PyData} (c : Can A l) (d : Can A m) (h : ∀ x, x ∈ l ↔ x ∈ m) : l = m :=
  ((List.perm_ext_iff_of_nodup c.nd d.nd).mpr h).eq_of_pairwise (fun a b ha hb h1 h2 => F.anti (c.sub ha) (d.sub hb) h1 h2) c.srt d.srt
theorem Can.anti (F : Fam A) {l m : List PyData} (c : Can A l) (d : Can A m) (h : l ⊆ m) (h2 : m ⊆ l) : l = m := c.ext F d fun x => ⟨fun q => h q, fun q => h2 q⟩
theorem can_nil : Can A [] := ⟨List.nodup_nil, .nil, by simp⟩
theorem Can.le {l m : List PyData} (c : Can A l) (h : l ⊆ m) : l.length ≤ m.length := c.nd.length_le_of_subset h
/-- as many, within: all -/
theorem sub_back {α : Type} {l m : List α} (nd : l.Nodup) (h : l ⊆ m) (z : m.length ≤ l.length) : m ⊆ l := fun x hx => by
  by_cases q : x ∈ l
  · exact q
  · have nd2 : (x :: l).Nodup := List.nodup_cons.mpr ⟨q, nd⟩
    have := nd2.length_le_of_subset (l₂ := m) fun y hy => by
      rcases List.mem_cons.mp hy with rfl | hy
      · exact hx
      · exact h hy
    simp at this
    omega
/-! ### the least ones -/
def Lst (C : List (List PyData)) (l : List PyData) : Prop := l ∈ C ∧ ∀ m ∈ C, m ⊆ l → l ⊆ m
theorem lst_below (C : List (List PyData)) (hC : ∀ l ∈ C, l.Nodup) : ∀ (n : Nat) (m : List PyData), m.length ≤ n → m ∈ C → ∃ l, Lst C l ∧ l ⊆ m
  | n, m, hn, hm => by
    by_cases h : ∀ k ∈ C, k ⊆ m → m ⊆ k
    · exact ⟨m, ⟨hm, h⟩, fun _ => id⟩
    · have : ∃ k, k ∈ C ∧ k ⊆ m ∧ ¬ m ⊆ k := Classical.byContradiction fun q => h fun k hk hs => Classical.byContradiction fun z => q ⟨k, hk, hs, z⟩
      obtain ⟨k, hk, hs, z⟩ := this
      have lt : k.length < m.length := by
        rcases Nat.lt_or_ge k.length m.length with y | y
        · exact y
        · exact absurd (sub_back (hC k hk) hs y) z
      match n with
      | 0 => omega
      | n + 1 =>
        obtain ⟨l, h1, h2⟩ := lst_below C hC n k (by omega) hk
        exact ⟨l, h1, fun x hx => hs (h2 hx)⟩
theorem lst_ex {C : List (List PyData)} (hC : ∀ l ∈ C, l.Nodup) {m : List PyData} (hm : m ∈ C) : ∃ l, Lst C l ∧ l ⊆ m := lst_below C hC m.length m (Nat.le_refl _) hm
theorem least_fold (F : Fam A) : ∀ (R : List (List PyData)), (∀ l ∈ R, Can A l) → (R.reverse.Pairwise fun a b => a.length ≤ b.length) → (R.reverse.foldl leastStep []).Nodup ∧ ∀ l, l ∈ R.reverse.foldl leastStep [] ↔ Lst R l
  | [], _, _ => ⟨List.nodup_nil, fun l => by simp [Lst]⟩
  | x :: R, hC, hp => by
    rw [List.reverse_cons] at hp ⊢
    rw [List.foldl_append]
    obtain ⟨hp1, _, hp3⟩ := List.pairwise_append.mp hp
    obtain ⟨ih1, ih2⟩ := least_fold F R (fun l m => hC l (List.mem_cons_of_mem _ m)) hp1
    have hx := hC x (List.mem_cons_self ..)
    have hR : ∀ l ∈ R, Can A l := fun l m => hC l (List.mem_cons_of_mem _ m)
    have hlen : ∀ l ∈ R, l.length ≤ x.length := fun l m => hp3 l (List.mem_reverse.mpr m) x (by simp)
    generalize R.reverse.foldl leastStep [] = fd at ih1 ih2
    show (leastStep fd x).Nodup ∧ ∀ l, l ∈ leastStep fd x ↔ Lst (x :: R) l
    have old : ∀ l, l ∈ R → (Lst (x :: R) l ↔ Lst R l) := fun l hl => ⟨fun h => ⟨hl, fun m hm => h.2 m (List.mem_cons_of_mem _ hm)⟩, fun h => ⟨List.mem_cons_of_mem _ hl, fun m hm hs => by
      rcases List.mem_cons.mp hm with rfl | hm
      · exact sub_back hx.nd hs (hlen l hl)
      · exact h.2 m hm hs⟩⟩
    have any : (fd.any (fun o => withinD o x) = true) ↔ ∃ o, Lst R o ∧ o ⊆ x := by
      rw [List.any_eq_true]
      constructor
      · rintro ⟨o, ho, e⟩
        have := (ih2 o).mp ho
        exact ⟨o, this, (F.within (hR o this.1).sub hx.sub).mp e⟩
      · rintro ⟨o, ho, e⟩
        exact ⟨o, (ih2 o).mpr ho, (F.within (hR o ho.1).sub hx.sub).mpr e⟩
    unfold leastStep
    by_cases q : fd.any (fun o => withinD o x) = true
    · rw [if_pos q]
      obtain ⟨o, ho, hs⟩ := any.mp q
      refine ⟨ih1, fun l => (ih2 l).trans ⟨fun h => (old l h.1).mpr h, fun h => ?_⟩⟩
      by_cases hl : l ∈ R
      · exact (old l hl).mp h
      · have el : l = x := by
          rcases List.mem_cons.mp h.1 with e | e
          · exact e
          · exact absurd e hl
        subst el
        have e := (hR o ho.1).anti F hx hs (h.2 o (List.mem_cons_of_mem _ ho.1) hs)
        exact absurd (e ▸ ho.1) hl
    · rw [if_neg q]
      have no : ¬ ∃ o, Lst R o ∧ o ⊆ x := fun z => q (any.mpr z)
      have lx : Lst (x :: R) x := ⟨List.mem_cons_self .., fun m hm hs => by
        rcases List.mem_cons.mp hm with rfl | hm
        · exact hs
        · obtain ⟨l, h1, h2⟩ := lst_ex (fun l m => (hR l m).nd) hm
          exact absurd ⟨l, h1, fun y hy => hs (h2 hy)⟩ no⟩
      refine ⟨List.nodup_append.mpr ⟨ih1, by simp, fun a ha b hb e => ?_⟩, fun l => ?_⟩
      · simp only [List.mem_singleton] at hb
        subst hb
        subst e
        exact no ⟨a, (ih2 a).mp ha, fun _ => id⟩
      · rw [List.mem_append, ih2]
        constructor
        · rintro (h | h)
          · exact (old l h.1).mpr h
          · simp only [List.mem_singleton] at h
            subst h
            exact lx
        · intro h
          by_cases hl : l ∈ R
          · exact .inl ((old l hl).mp h)
          · rcases List.mem_cons.mp h.1 with e | e
            · exact .inr (by simp [e])
            · exact absurd e hl
theorem sortLen_sorted (C : List (List PyData)) : (sortLen C).Pairwise fun a b => a.length ≤ b.length := by
  have := List.pairwise_mergeSort (le := fun (a b : List PyData) => decide (a.length ≤ b.length)) (fun a b c h1 h2 => by simp at *; omega) (fun a b => by simp; omega) C
  exact this.imp fun h => by simpa using h
theorem least_sorted (F : Fam A) {S : List (List PyData)} (hC : ∀ l ∈ S, Can A l) (hp : S.Pairwise fun a b => a.length ≤ b.length) : (S.foldl leastStep []).Nodup ∧ ∀ l, l ∈ S.foldl leastStep [] ↔ Lst S l := by
  have h := least_fold F S.reverse (fun l m => hC l (List.mem_reverse.mp m)) (by rwa [List.reverse_reverse])
  rw [List.reverse_reverse] at h
  refine ⟨h.1, fun l => (h.2 l).trans ?_⟩
  simp [Lst]
theorem leastD_is (F : Fam A) {C : List (List PyData)} (hC : ∀ l ∈ C, Can A l) : (leastD C).Nodup ∧ ∀ l, l ∈ leastD C ↔ Lst C l := by
  have h := least_sorted F (S := sortLen C) (fun l m => hC l (sortLen_mem.mp m)) (sortLen_sorted C)
  refine ⟨h.1, fun l => (h.2 l).trans ?_⟩
  simp [Lst, sortLen_mem]
/-! ### lists that meet all lots -/
def Hits (lots : List (List PyData)) (l : List PyData) : Prop := ∀ t ∈ lots, ∃ x, x ∈ l ∧ x ∈ t
structure MinHit (A : List PyData) (lots : List (List PyData)) (l : List PyData) : Prop where
  can : Can A l
  hits : Hits lots l
  min : ∀ m, Can A m → Hits lots m → m ⊆ l → l ⊆ m
theorem Hits.mono {lots : List (List PyData)} {l m : List PyData} (h : Hits lots l) (s : l ⊆ m) : Hits lots m := fun t ht => let ⟨x, h1, h2⟩ := h t ht; ⟨x, s h1, h2⟩
theorem minHit_below (F : Fam A) (lots : List (List PyData)) : ∀ (n : Nat) (m : List PyData), m.length ≤ n → Can A m → Hits lots m → ∃ l, MinHit A lots l ∧ l ⊆ m
  | n, m, hn, hc, hh => by
    by_cases h : ∀ k, Can A k → Hits lots k → k ⊆ m → m ⊆ k
    · exact ⟨m, ⟨hc, hh, h⟩, fun _ => id⟩
    · have : ∃ k, Can A k ∧ Hits lots k ∧ k ⊆ m ∧ ¬ m ⊆ k := Classical.byContradiction fun q => h fun k h1 h2 hs => Classical.byContradiction fun z => q ⟨k, h1, h2, hs, z⟩
      obtain ⟨k, h1, h2, hs, z⟩ := this
      have lt : k.length < m.length := by
        rcases Nat.lt_or_ge k.length m.length with y | y
        · exact y
        · exact absurd (sub_back h1.nd hs y) z
      match n with
      | 0 => omega
      | n + 1 =>
        obtain ⟨l, a, b⟩ := minHit_below F lots n k (by omega) h1 h2
        exact ⟨l, a, fun x hx => hs (b hx)⟩
theorem minHit_ex (F : Fam A) {lots : List (List PyData)} {m : List PyData} (hc : Can A m) (hh : Hits lots m) : ∃ l, MinHit A lots l ∧ l ⊆ m := minHit_below F lots m.length m (Nat.le_refl _) hc hh
/-- what is minimal among lists that meet all, such that all minimal ones are there, is minimal -/
theorem lst_minHit (F : Fam A) {lots C : List (List PyData)} (h1 : ∀ l ∈ C, Can A l ∧ Hits lots l) (h2 : ∀ l, MinHit A lots l → l ∈ C) (l : List PyData) : Lst C l ↔ MinHit A lots l := by
  constructor
  · rintro ⟨hl, hm⟩
    obtain ⟨c, hh⟩ := h1 l hl
    obtain ⟨k, a, b⟩ := minHit_ex F c hh
    have e := a.can.anti F c b (hm k (h2 k a) b)
    exact e ▸ a
  · intro h
    exact ⟨h2 l h, fun m hm hs => h.min m (h1 m hm).1 (h1 m hm).2 hs⟩
theorem meet_step (F : Fam A) {lots fd : List (List PyData)} {lot : List PyData} (hlot : lot ⊆ A) (hf : ∀ l, l ∈ fd ↔ MinHit A lots l) : (meetStep fd lot).Nodup ∧ ∀ l, l ∈ meetStep fd lot ↔ MinHit A (lots ++ [lot]) l := by
  have any : ∀ one : List PyData, one ⊆ A → (one.any (fun t => hasD lot t) = true ↔ ∃ x, x ∈ one ∧ x ∈ lot) := fun one ho => by
    rw [List.any_eq_true]
    exact ⟨fun ⟨x, a, b⟩ => ⟨x, a, (F.has hlot (ho a)).mp b⟩, fun ⟨x, a, b⟩ => ⟨x, a, (F.has hlot (ho a)).mpr b⟩⟩
  have hits_app : ∀ l, Hits (lots ++ [lot]) l ↔ Hits lots l ∧ ∃ x, x ∈ l ∧ x ∈ lot := fun l => by
    constructor
    · intro h
      exact ⟨fun t ht => h t (List.mem_append_left _ ht), h lot (by simp)⟩
    · rintro ⟨h1, h2⟩ t ht
      rcases List.mem_append.mp ht with q | q
      · exact h1 t q
      · simp only [List.mem_singleton] at q
        subst q
        exact h2
  have c1 : ∀ l ∈ fd.flatMap (meetOne lot), Can A l ∧ Hits (lots ++ [lot]) l := fun l hl => by
    obtain ⟨one, ho, hm⟩ := List.mem_flatMap.mp hl
    have mh := (hf one).mp ho
    unfold meetOne at hm
    split at hm
    · rename_i q
      simp only [List.mem_singleton] at hm
      subst hm
      exact ⟨mh.can, (hits_app _).mpr ⟨mh.hits, (any l mh.can.sub).mp q⟩⟩
    · rename_i q
      obtain ⟨t, ht, rfl⟩ := List.mem_map.mp hm
      have nt : t ∉ one := fun z => q ((any one mh.can.sub).mpr ⟨t, z, ht⟩)
      refine ⟨can_sort (List.nodup_append.mpr ⟨mh.can.nd, by simp, fun a ha b hb e => ?_⟩) fun x hx => ?_, (hits_app _).mpr ⟨mh.hits.mono fun x hx => sortD_mem.mpr (List.mem_append_left _ hx), t, sortD_mem.mpr (by simp), ht⟩⟩
      · simp only [List.mem_singleton] at hb
        subst hb
        subst e
        exact nt ha
      · rcases List.mem_append.mp hx with y | y
        · exact mh.can.sub y
        · simp only [List.mem_singleton] at y
          subst y
          exact hlot ht
  have c2 : ∀ l, MinHit A (lots ++ [lot]) l → l ∈ fd.flatMap (meetOne lot) := fun l hl => by
    obtain ⟨h1, x, hx, hxl⟩ := (hits_app l).mp hl.hits
    obtain ⟨one, mo, so⟩ := minHit_ex F hl.can h1
    refine List.mem_flatMap.mpr ⟨one, (hf one).mpr mo, ?_⟩
    unfold meetOne
    by_cases q : one.any (fun t => hasD lot t) = true
    · rw [if_pos q]
      have e := mo.can.anti F hl.can so (hl.min one mo.can ((hits_app one).mpr ⟨mo.hits, (any one mo.can.sub).mp q⟩) so)
      simp [e]
    · rw [if_neg q]
      have nx : x ∉ one := fun z => q ((any one mo.can.sub).mpr ⟨x, z, hxl⟩)
      refine List.mem_map.mpr ⟨x, hxl, ?_⟩
      have nd : (one ++ [x]).Nodup := List.nodup_append.mpr ⟨mo.can.nd, by simp, fun a ha b hb e => by
        simp only [List.mem_singleton] at hb
        subst hb
        subst e
        exact nx ha⟩
      have sub : one ++ [x] ⊆ l := fun y hy => by
        rcases List.mem_append.mp hy with z | z
        · exact so z
        · simp only [List.mem_singleton] at z
          subst z
          exact hx
      have cs : Can A (sortD (one ++ [x])) := can_sort nd fun y hy => hl.can.sub (sub hy)
      refine cs.anti F hl.can (fun y hy => sub (sortD_mem.mp hy)) (hl.min _ cs ((hits_app _).mpr ⟨mo.hits.mono fun y hy => sortD_mem.mpr (List.mem_append_left _ hy), x, sortD_mem.mpr (by simp), hxl⟩) fun y hy => sub (sortD_mem.mp hy))
  have h := leastD_is F (C := fd.flatMap (meetOne lot)) fun l hl => (c1 l hl).1
  exact ⟨h.1, fun l => (h.2 l).trans (lst_minHit F c1 c2 l)⟩
theorem meet_fold (F : Fam A) : ∀ (lots done fd : List (List PyData)), (∀ l ∈ lots, l ⊆ A) → fd.Nodup → (∀ l, l ∈ fd ↔ MinHit A done l) → (lots.foldl meetStep fd).Nodup ∧ ∀ l, l ∈ lots.foldl meetStep fd ↔ MinHit A (done ++ lots) l
  | [], done, fd, _, nd, h => by simpa using ⟨nd, h⟩
  | lot :: lots, done, fd, hl, nd, h => by
    rw [List.foldl_cons]
    obtain ⟨a, b⟩ := meet_step F (hl lot (List.mem_cons_self ..)) h
    have := meet_fold F lots (done ++ [lot]) _ (fun l m => hl l (List.mem_cons_of_mem _ m)) a b
    rwa [List.append_assoc] at this
theorem meetD_is (F : Fam A) {lots : List (List PyData)} (hl : ∀ l ∈ lots, l ⊆ A) : (meetD lots).Nodup ∧ ∀ l, l ∈ meetD lots ↔ MinHit A lots l := by
  refine meet_fold F lots [] [[]] hl (by simp) fun l => ?_
  constructor
  · intro h
    simp only [List.mem_singleton] at h
    subst h
    exact ⟨can_nil, (fun t ht => nomatch ht), fun m _ _ s => by simp⟩
  · intro h
    have := h.min [] can_nil (fun t ht => nomatch ht) (by simp)
    rw [List.subset_nil] at this
    simp [this]
end
end K48
set_option Elab.async false
set_option linter.all false
set_option maxRecDepth 100000
set_option maxHeartbeats 4000000
/-! M48b: mathematics: all lists gone through; the least of some lists; lists that meet lists that meet -/
namespace K48
open PySem PySem.Spec PyProof.Rows L2 PD StX RZ
section
variable {A : List PyData}
/-! ### all lists -/
theorem key_le {a b : List PyData} (h : leD (keyL a) (keyL b) = true) : a.length ≤ b.length := by
  rcases Nat.lt_or_ge b.length a.length with q | q
  · unfold leD keyL at h
    rw [PySem.W.dataLt_tuple, PySem.W.dataLt_all_no (by simp [PySem.W.alike]) (by simp [PyData.eqv]; omega), PySem.W.dataLt_int] at h
    have : ((b.length : Nat) : Int) < (a.length : Nat) := by omega
    simp [this] at h
  · exact q
theorem lots_sorted (ts : List PyData) : (lotsD ts).Pairwise fun a b => a.length ≤ b.length :=
  (List.pairwise_mergeSort (le := fun a b => leD (keyL a) (keyL b)) (fun a b c => leD_trans _ _ _) (fun a b => leD_total _ _) (powD ts)).imp fun h => key_le h
theorem pow_mem_iff : ∀ (ts : List PyData) (F : List (List PyData)) (l : List PyData), l ∈ ts.foldl powStep F ↔ ∃ f ∈ F, ∃ s : List PyData, s.Sublist ts ∧ l = f ++ s
  | [], F, l => by
    constructor
    · intro h
      exact ⟨l, h, [], .slnil, by simp⟩
    · rintro ⟨f, hf, s, hs, rfl⟩
      have : s = [] := by simpa using hs
      subst this
      simpa using hf
  | t :: ts, F, l => by
    rw [List.foldl_cons, pow_mem_iff ts]
    unfold powStep
    constructor
    · rintro ⟨f, hf, s, hs, rfl⟩
      rcases List.mem_append.mp hf with q | q
      · exact ⟨f, q, s, hs.cons t, rfl⟩
      · obtain ⟨g, hg, rfl⟩ := List.mem_map.mp q
        exact ⟨g, hg, t :: s, hs.cons₂ t, by simp⟩
    · rintro ⟨f, hf, s, hs, rfl⟩
      cases hs with
      | cons _ h => exact ⟨f, List.mem_append_left _ hf, _, h, rfl⟩
      | cons_cons _ h => exact ⟨f ++ [t], List.mem_append_right _ (List.mem_map.mpr ⟨f, hf, rfl⟩), _, h, by simp⟩
theorem lots_mem_iff (ts l : List PyData) : l ∈ lotsD ts ↔ l.Sublist ts := by
  unfold lotsD
  rw [(List.mergeSort_perm _ _).mem_iff]
  unfold powD
  rw [pow_mem_iff]
  simp
theorem Fam.canA (F : Fam A) : Can A (sortD A) := can_sort F.nd fun _ => id
theorem can_sublist (F : Fam A) {l : List PyData} : Can A l ↔ l.Sublist (sortD A) := by
  constructor
  · intro c
    have cf : Can A ((sortD A).filter fun x => hasD l x) := ⟨F.canA.nd.sublist List.filter_sublist, F.canA.srt.sublist List.filter_sublist, fun x hx => F.canA.sub (List.mem_filter.mp hx).1⟩
    have e := c.ext F cf fun x => by
      rw [List.mem_filter, sortD_mem]
      constructor
      · intro hx
        exact ⟨c.sub hx, (F.has c.sub (c.sub hx)).mpr hx⟩
      · rintro ⟨h1, h2⟩
        exact (F.has c.sub h1).mp h2
    rw [e]
    exact List.filter_sublist
  · intro h
    exact ⟨F.canA.nd.sublist h, F.canA.srt.sublist h, fun x hx => F.canA.sub (h.subset hx)⟩
theorem all_mem (F : Fam A) {l : List PyData} : l ∈ lotsD (sortD A) ↔ Can A l := by rw [lots_mem_iff, can_sublist F]
theorem few64 (F : Fam A) {L : List (List PyData)} (nd : L.Nodup) (h : ∀ l ∈ L, Can A l) : L.length ≤ 64 := by
  have q := nd.length_le_of_subset (l₂ := lotsD (sortD A)) fun l hl => (all_mem F).mpr (h l hl)
  rw [lots_len, sortD_len] at q
  exact Nat.le_trans q (Nat.pow_le_pow_right (by decide) F.few)
theorem sortLD_ext (F : Fam A) {L M : List (List PyData)} (n1 : L.Nodup) (n2 : M.Nodup) (hs : ∀ l ∈ L, l ⊆ A) (h : ∀ l, l ∈ L ↔ l ∈ M) : sortLD L = sortLD M := by
  have p : (sortLD L).Perm (sortLD M) := ((sortLD_perm L).trans ((List.perm_ext_iff_of_nodup n1 n2).mpr h)).trans (sortLD_perm M).symm
  exact p.eq_of_pairwise (fun a b ha hb h1 h2 => F.antiL (hs a (sortLD_mem.mp ha)) (hs b ((h b).mpr (sortLD_mem.mp hb))) h1 h2) (sortLD_sorted L) (sortLD_sorted M)
theorem sortLD_idem (L : List (List PyData)) : sortLD (sortLD L) = sortLD L := List.mergeSort_of_pairwise (sortLD_sorted L)
theorem sortLD_nodup {L : List (List PyData)} (h : L.Nodup) : (sortLD L).Nodup := (sortLD_perm L).nodup_iff.mpr h
/-! ### the law's meeting lists -/
theorem lawM_fold (ls : List (List PyData)) : ∀ (S acc : List (List PyData)), S.foldl (lawMStep ls) acc = (S.filter fun s => ls.all fun l => meetsD s l).foldl leastStep acc
  | [], acc => rfl
  | s :: S, acc => by
    rw [List.foldl_cons, lawM_fold ls S, List.filter_cons]
    unfold lawMStep
    cases h1 : ls.all (fun l => meetsD s l) with
    | false => simp
    | true =>
      rw [if_pos rfl, List.foldl_cons]
      unfold leastStep
      cases h2 : acc.any (fun o => withinD o s) with
      | false => simp
      | true => simp
theorem hits_iff (F : Fam A) {ls : List (List PyData)} (hl : ∀ l ∈ ls, l ⊆ A) {s : List PyData} (hs : s ⊆ A) : (ls.all fun l => meetsD s l) = true ↔ Hits ls s := by
  rw [List.all_eq_true]
  exact ⟨fun h l m => (F.meets hs (hl l m)).mp (h l m), fun h l m => (F.meets hs (hl l m)).mpr (h l m)⟩
theorem lawMeet_is (F : Fam A) {ls : List (List PyData)} (hl : ∀ l ∈ ls, l ⊆ A) : (lawMeetD A ls).Nodup ∧ ∀ l, l ∈ lawMeetD A ls ↔ MinHit A ls l := by
  unfold lawMeetD
  rw [lawM_fold]
  have c1 : ∀ l ∈ (lotsD (sortD A)).filter (fun s => ls.all fun l => meetsD s l), Can A l ∧ Hits ls l := fun l hm => by
    obtain ⟨h1, h2⟩ := List.mem_filter.mp hm
    have c := (all_mem F).mp h1
    exact ⟨c, (hits_iff F hl c.sub).mp h2⟩
  have c2 : ∀ l, MinHit A ls l → l ∈ (lotsD (sortD A)).filter (fun s => ls.all fun l => meetsD s l) := fun l h => List.mem_filter.mpr ⟨(all_mem F).mpr h.can, (hits_iff F hl h.can.sub).mpr h.hits⟩
  have h := least_sorted F (S := (lotsD (sortD A)).filter fun s => ls.all fun l => meetsD s l) (fun l hm => (c1 l hm).1) ((lots_sorted _).sublist List.filter_sublist)
  exact ⟨sortLD_nodup h.1, fun l => sortLD_mem.trans ((h.2 l).trans (lst_minHit F c1 c2 l))⟩
theorem hits_sort {ls : List (List PyData)} {s : List PyData} : Hits (ls.map sortD) s ↔ Hits ls s := by
  constructor
  · intro h t ht
    obtain ⟨x, a, b⟩ := h (sortD t) (List.mem_map.mpr ⟨t, ht, rfl⟩)
    exact ⟨x, a, sortD_mem.mp b⟩
  · intro h t ht
    obtain ⟨u, hu, rfl⟩ := List.mem_map.mp ht
    obtain ⟨x, a, b⟩ := h u hu
    exact ⟨x, a, sortD_mem.mpr b⟩
theorem minHit_sort {ls : List (List PyData)} {s : List PyData} : MinHit A (ls.map sortD) s ↔ MinHit A ls s :=
  ⟨fun h => ⟨h.can, hits_sort.mp h.hits, fun m c q => h.min m c (hits_sort.mpr q)⟩, fun h => ⟨h.can, hits_sort.mpr h.hits, fun m c q => h.min m c (hits_sort.mp q)⟩⟩
/-- meeting tells what the law reckons -/
theorem meet_law (F : Fam A) {ls : List (List PyData)} (hl : ∀ l ∈ ls, l ⊆ A) : sortLD (meetD (ls.map sortD)) = lawMeetD A ls := by
  have h1 := meetD_is F (lots := ls.map sortD) fun l m => by
    obtain ⟨u, hu, rfl⟩ := List.mem_map.mp m
    exact fun x hx => hl u hu (sortD_mem.mp hx)
  have h2 := lawMeet_is F hl
  have e : sortLD (lawMeetD A ls) = lawMeetD A ls := sortLD_idem _
  rw [← e]
  exact sortLD_ext F h1.1 h2.1 (fun l m => ((h1.2 l).mp m).can.sub) fun l => ((h1.2 l).trans minHit_sort).trans (h2.2 l).symm
/-! ### the least of some lists -/
theorem onceL_is (F : Fam A) : ∀ (L acc : List (List PyData)), (∀ l ∈ L, l ⊆ A) → (∀ l ∈ acc, l ⊆ A) → acc.Nodup → (L.foldl onceLStep acc).Nodup ∧ ∀ l, l ∈ L.foldl onceLStep acc ↔ l ∈ acc ∨ l ∈ L
  | [], acc, _, _, nd => ⟨nd, fun l => by simp⟩
  | x :: L, acc, h1, h2, nd => by
    rw [List.foldl_cons]
    have hx := h1 x (List.mem_cons_self ..)
    have hL : ∀ l ∈ L, l ⊆ A := fun l m => h1 l (List.mem_cons_of_mem _ m)
    unfold onceLStep
    by_cases q : hasD (acc.map .list) (.list x) = true
    · rw [if_pos q]
      have hm := (F.hasL h2 hx).mp q
      obtain ⟨a, b⟩ := onceL_is F L acc hL h2 nd
      refine ⟨a, fun l => (b l).trans ?_⟩
      constructor
      · rintro (z | z)
        · exact .inl z
        · exact .inr (List.mem_cons_of_mem _ z)
      · rintro (z | z)
        · exact .inl z
        · rcases List.mem_cons.mp z with rfl | z
          · exact .inl hm
          · exact .inr z
    · rw [if_neg q]
      have hm : x ∉ acc := fun z => q ((F.hasL h2 hx).mpr z)
      obtain ⟨a, b⟩ := onceL_is F L (acc ++ [x]) hL (fun l m => by
        rcases List.mem_append.mp m with y | y
        · exact h2 l y
        · simp only [List.mem_singleton] at y
          subst y
          exact hx) (List.nodup_append.mpr ⟨nd, by simp, fun a ha b hb e => by
          simp only [List.mem_singleton] at hb
          subst hb
          subst e
          exact hm ha⟩)
      refine ⟨a, fun l => (b l).trans ?_⟩
      simp [or_assoc]
theorem leastOf_is (F : Fam A) {ls : List (List PyData)} (hl : ∀ l ∈ ls, l ⊆ A) (hn : ∀ l ∈ ls, l.Nodup) : (leastOfD ls).Nodup ∧ (∀ l, l ∈ leastOfD ls ↔ Lst (ls.map sortD) l) ∧ ∀ l ∈ ls.map sortD, Can A l := by
  have hc : ∀ l ∈ ls.map sortD, Can A l := fun l m => by
    obtain ⟨u, hu, rfl⟩ := List.mem_map.mp m
    exact can_sort (hn u hu) (hl u hu)
  obtain ⟨nd, hm⟩ := onceL_is F (ls.map sortD) [] (fun l m => (hc l m).sub) (by simp) (by simp)
  have hm : ∀ l, l ∈ onceLD (ls.map sortD) ↔ l ∈ ls.map sortD := fun l => (hm l).trans (by simp)
  have nd : (onceLD (ls.map sortD)).Nodup := nd
  refine ⟨?_, fun l => ?_, hc⟩
  · unfold leastOfD
    exact sortLD_nodup (nd.sublist List.filter_sublist)
  · unfold leastOfD
    rw [sortLD_mem, List.mem_filter, hm]
    unfold Lst
    refine and_congr_right fun hl0 => ?_
    rw [Bool.not_eq_true']
    constructor
    · intro h m hmm hs
      have := List.any_eq_false.mp h m ((hm m).mpr hmm)
      rw [(F.within (hc m hmm).sub (hc l hl0).sub).mpr hs] at this
      have e : PyData.eqv (.list m) (.list l) = true := by simpa using this
      rw [(F.eqvL (hc m hmm).sub (hc l hl0).sub).mp e]
      exact fun _ => id
    · intro h
      refine List.any_eq_false.mpr fun m hmm z => ?_
      have hmm := (hm m).mp hmm
      rw [Bool.and_eq_true] at z
      have hs := (F.within (hc m hmm).sub (hc l hl0).sub).mp z.1
      have e := (hc m hmm).anti F (hc l hl0) hs (h m hmm hs)
      have := (F.eqvL (hc m hmm).sub (hc l hl0).sub).mpr e
      rw [this] at z
      exact absurd z.2 (by simp)
/-! ### meeting of meeting -/
def compD (A l : List PyData) : List PyData := sortD (restD A l)
theorem rest_mem (F : Fam A) {l : List PyData} (hl : l ⊆ A) (x : PyData) : x ∈ restD A l ↔ x ∈ A ∧ x ∉ l := by
  unfold restD
  rw [List.mem_filter]
  refine and_congr_right fun hx => ?_
  rw [Bool.not_eq_true', ← F.has hl hx]
  simp
theorem comp_mem (F : Fam A) {l : List PyData} (hl : l ⊆ A) (x : PyData) : x ∈ compD A l ↔ x ∈ A ∧ x ∉ l := by
  unfold compD
  rw [sortD_mem, rest_mem F hl]
theorem comp_can (F : Fam A) (l : List PyData) : Can A (compD A l) := can_sort (F.nd.sublist List.filter_sublist) fun x hx => (List.mem_filter.mp hx).1
theorem hits_dual (F : Fam A) {lots Tr : List (List PyData)} (hc : ∀ l ∈ lots, l ⊆ A) (hT : ∀ l, l ∈ Tr ↔ MinHit A lots l) {l : List PyData} (hl : l ⊆ A) : Hits Tr l ↔ ∃ t ∈ lots, t ⊆ l := by
  constructor
  · intro h
    refine Classical.byContradiction fun no => ?_
    have hh : Hits lots (compD A l) := fun t ht => Classical.byContradiction fun z => no ⟨t, ht, fun x hx => Classical.byContradiction fun y => z ⟨x, (comp_mem F hl x).mpr ⟨hc t ht hx, y⟩, hx⟩⟩
    obtain ⟨t, mt, st⟩ := minHit_ex F (comp_can F l) hh
    obtain ⟨x, h1, h2⟩ := h t ((hT t).mpr mt)
    exact ((comp_mem F hl x).mp (st h2)).2 h1
  · rintro ⟨t, ht, hs⟩ m hm
    obtain ⟨x, h1, h2⟩ := ((hT m).mp hm).hits t ht
    exact ⟨x, hs h2, h1⟩
theorem meet_dual (F : Fam A) {lots Tr : List (List PyData)} (hc : ∀ l ∈ lots, Can A l) (hT : ∀ l, l ∈ Tr ↔ MinHit A lots l) (l : List PyData) : MinHit A Tr l ↔ Lst lots l := by
  have hc' : ∀ l ∈ lots, l ⊆ A := fun l m => (hc l m).sub
  constructor
  · intro h
    obtain ⟨t, ht, hs⟩ := (hits_dual F hc' hT h.can.sub).mp h.hits
    have e := (hc t ht).anti F h.can hs (h.min t (hc t ht) ((hits_dual F hc' hT (hc' t ht)).mpr ⟨t, ht, fun _ => id⟩) hs)
    subst e
    exact ⟨ht, fun m hm s => h.min m (hc m hm) ((hits_dual F hc' hT (hc' m hm)).mpr ⟨m, hm, fun _ => id⟩) s⟩
  · rintro ⟨hl, hm⟩
    refine ⟨hc l hl, (hits_dual F hc' hT (hc' l hl)).mpr ⟨l, hl, fun _ => id⟩, fun m cm hh s => ?_⟩
    obtain ⟨t, ht, hs⟩ := (hits_dual F hc' hT cm.sub).mp hh
    exact fun x hx => hs (hm t ht (fun y hy => s (hs hy)) hx)
theorem meet_back (F : Fam A) {ls : List (List PyData)} (hl : ∀ l ∈ ls, l ⊆ A) (hn : ∀ l ∈ ls, l.Nodup) : sortLD (meetD (lawMeetD A ls)) = leastOfD ls := by
  obtain ⟨n1, h1⟩ := lawMeet_is F hl
  obtain ⟨n2, h2⟩ := meetD_is F (lots := lawMeetD A ls) fun l m => ((h1 l).mp m).can.sub
  obtain ⟨n3, h3, hc⟩ := leastOf_is F hl hn
  have e : sortLD (leastOfD ls) = leastOfD ls := sortLD_idem _
  rw [← e]
  exact sortLD_ext F n2 n3 (fun l m => ((h2 l).mp m).can.sub) fun l => ((h2 l).trans (meet_dual F hc (fun l => (h1 l).trans minHit_sort.symm) l)).trans (h3 l).symm
end
end K48
set_option Elab.async false
set_option linter.all false
set_option maxRecDepth 100000
set_option maxHeartbeats 4000000
/-! M48c: mathematics: what a rising function tells, by few askings -/
namespace K48
open PySem PySem.Spec PyProof.Rows L2 PD StX RZ
theorem knAt_iff {ts : List PyData} (hT : FineT ts) {l : List PyData} (hl : l ⊆ ts) : ∀ {qs : List (List PyData)}, (∀ q ∈ qs, q ⊆ ts) → ((knAt (qs.map fun l => (l, true)) l).isSome = true ↔ l ∈ qs)
  | [], _ => by simp [knAt]
  | q :: qs, h => by
    have ih := knAt_iff hT hl (qs := qs) fun q' m => h q' (List.mem_cons_of_mem _ m)
    simp only [List.map_cons, knAt]
    have g1 := hT.good (l := q) fun x hx => h q (List.mem_cons_self ..) hx
    have g2 := hT.good (l := l) fun x hx => hl hx
    by_cases e : keyOf (.tuple q) = keyOf (.tuple l)
    · have := keyOf_inj _ _ (by simpa [plainK] using g1.1) (by simpa [plainK] using g2.1) e
      simp only [PyData.tuple.injEq] at this
      subst this
      simp
    · rw [if_neg e, ih]
      have n : l ≠ q := fun z => e (by rw [z])
      simp [n]
/-- lists that hold some lot -/
def Tru (ls : List (List PyData)) (l : List PyData) : Prop := ∃ t ∈ ls, t ⊆ l
theorem Tru.mono {ls : List (List PyData)} {l m : List PyData} (h : Tru ls l) (s : l ⊆ m) : Tru ls m := let ⟨t, a, b⟩ := h; ⟨t, a, fun x hx => s (b hx)⟩
structure MinT (B : List PyData) (ls : List (List PyData)) (l : List PyData) : Prop where
  can : Can B l
  yes : Tru ls l
  min : ∀ m, Can B m → Tru ls m → m ⊆ l → l ⊆ m
structure MaxF (B : List PyData) (ls : List (List PyData)) (l : List PyData) : Prop where
  can : Can B l
  no : ¬ Tru ls l
  max : ∀ m, Can B m → ¬ Tru ls m → l ⊆ m → m ⊆ l
/-- a rising function of drawn lists -/
structure Rise (B : List PyData) (ls : List (List PyData)) (fq : List PyData → Bool) : Prop where
  fam : Fam B
  fine : FineT B
  can : Can B B
  sub : ∀ l ∈ ls, l ⊆ B
  tell : ∀ l, Can B l → (fq l = true ↔ Tru ls l)
section
variable {B : List PyData} {ls : List (List PyData)} {fq : List PyData → Bool}
theorem Rise.asked (R : Rise B ls fq) {qs : List (List PyData)} {l : List PyData} (hq : ∀ q ∈ qs, q ⊆ B) (hl : l ⊆ B) : askedAlso qs l = qs ∧ l ∈ qs ∨ askedAlso qs l = qs ++ [l] ∧ l ∉ qs := by
  unfold askedAlso
  by_cases h : (knAt (qs.map fun l => (l, true)) l).isSome = true
  · rw [if_pos h]
    exact .inl ⟨rfl, (knAt_iff R.fine hl hq).mp h⟩
  · rw [if_neg h]
    exact .inr ⟨rfl, fun z => h ((knAt_iff R.fine hl hq).mpr z)⟩
/-- asked so far: each once; n beside the least ones -/
structure AQ (B : List PyData) (ls : List (List PyData)) (qs : List (List PyData)) (n : Nat) : Prop where
  nd : qs.Nodup
  can : ∀ q ∈ qs, Can B q
  few : ∃ M : List (List PyData), M.Nodup ∧ (∀ m ∈ M, m ∈ qs ∧ MinT B ls m) ∧ qs.length ≤ M.length + n
theorem AQ.mono {qs : List (List PyData)} {n m : Nat} (a : AQ B ls qs n) (h : n ≤ m) : AQ B ls qs m := let ⟨M, h1, h2, h3⟩ := a.few; ⟨a.nd, a.can, M, h1, h2, by omega⟩
theorem AQ.also (R : Rise B ls fq) {qs : List (List PyData)} {n : Nat} (a : AQ B ls qs n) {l : List PyData} (hl : Can B l) : AQ B ls (askedAlso qs l) (n + 1) := by
  rcases R.asked (fun q m => (a.can q m).sub) hl.sub with ⟨e, _⟩ | ⟨e, h⟩
  · rw [e]; exact a.mono (by omega)
  · rw [e]
    obtain ⟨M, h1, h2, h3⟩ := a.few
    refine ⟨List.nodup_append.mpr ⟨a.nd, by simp, fun x hx y hy z => ?_⟩, fun q hq => ?_, M, h1, fun m hm => ⟨List.mem_append_left _ (h2 m hm).1, (h2 m hm).2⟩, by simp; omega⟩
    · simp only [List.mem_singleton] at hy
      subst hy; subst z
      exact h hx
    · rcases List.mem_append.mp hq with y | y
      · exact a.can q y
      · simp only [List.mem_singleton] at y
        subst y
        exact hl
theorem AQ.least (R : Rise B ls fq) {qs : List (List PyData)} {n : Nat} (a : AQ B ls qs n) {l : List PyData} (hl : MinT B ls l) : AQ B ls (askedAlso qs l) n := by
  rcases R.asked (fun q m => (a.can q m).sub) hl.can.sub with ⟨e, _⟩ | ⟨e, h⟩
  · rw [e]; exact a
  · rw [e]
    obtain ⟨M, h1, h2, h3⟩ := a.few
    refine ⟨List.nodup_append.mpr ⟨a.nd, by simp, fun x hx y hy z => ?_⟩, fun q hq => ?_, M ++ [l], List.nodup_append.mpr ⟨h1, by simp, fun x hx y hy z => ?_⟩, fun m hm => ?_, by simp; omega⟩
    · simp only [List.mem_singleton] at hy
      subst hy; subst z
      exact h hx
    · rcases List.mem_append.mp hq with y | y
      · exact a.can q y
      · simp only [List.mem_singleton] at y
        subst y
        exact hl.can
    · simp only [List.mem_singleton] at hy
      subst hy; subst z
      exact h (h2 _ hx).1
    · rcases List.mem_append.mp hm with y | y
      · exact ⟨List.mem_append_left _ (h2 m y).1, (h2 m y).2⟩
      · simp only [List.mem_singleton] at y
        subst y
        exact ⟨by simp, hl⟩
/-! ### the filling -/
theorem fill_run (R : Rise B ls fq) {one : List PyData} (h0 : ¬ Tru ls one) (c0 : Can B one) : ∀ (S : List PyData) (st : List PyData × List (List PyData)) (n : Nat), S ⊆ B → S.Nodup → (∀ x ∈ S, x ∉ st.1) → Can B st.1 → ¬ Tru ls st.1 → one ⊆ st.1 → AQ B ls st.2 n → (∀ x ∈ B, x ∉ S → x ∈ st.1 ∨ Tru ls (sortD (st.1 ++ [x]))) →
    (Can B (S.foldl (fillStep fq) st).1 ∧ ¬ Tru ls (S.foldl (fillStep fq) st).1 ∧ one ⊆ (S.foldl (fillStep fq) st).1 ∧ (∀ x ∈ B, x ∈ (S.foldl (fillStep fq) st).1 ∨ Tru ls (sortD ((S.foldl (fillStep fq) st).1 ++ [x])))) ∧ AQ B ls (S.foldl (fillStep fq) st).2 (n + S.length)
  | [], st, n, _, _, _, c, nt, so, a, h => ⟨⟨c, nt, so, fun x hx => h x hx (by simp)⟩, a⟩
  | t :: S, st, n, hS, hn, hd, c, nt, so, a, h => by
    rw [List.foldl_cons]
    have tB : t ∈ B := hS (List.mem_cons_self ..)
    have tn : t ∉ st.1 := hd t (List.mem_cons_self ..)
    obtain ⟨hn1, hn2⟩ := List.nodup_cons.mp hn
    have cm : Can B (sortD (st.1 ++ [t])) := can_sort (List.nodup_append.mpr ⟨c.nd, by simp, fun x hx y hy z => by
      simp only [List.mem_singleton] at hy
      subst hy; subst z
      exact tn hx⟩) fun x hx => by
        rcases List.mem_append.mp hx with y | y
        · exact c.sub y
        · simp only [List.mem_singleton] at y
          subst y
          exact tB
    have aq : AQ B ls (askedAlso st.2 (sortD (st.1 ++ [t]))) (n + 1) := a.also R cm
    have grow : st.1 ⊆ sortD (st.1 ++ [t]) := fun x hx => sortD_mem.mpr (List.mem_append_left _ hx)
    have tin : t ∈ sortD (st.1 ++ [t]) := sortD_mem.mpr (by simp)
    have ih := fill_run R h0 c0 S (fillStep fq st t) (n + 1) (fun x hx => hS (List.mem_cons_of_mem _ hx)) hn2
    rw [List.length_cons, show n + (S.length + 1) = n + 1 + S.length from by omega]
    by_cases q : fq (sortD (st.1 ++ [t])) = true
    · have e1 : (fillStep fq st t).1 = st.1 := by unfold fillStep; exact if_pos q
      rw [e1] at ih
      refine ih (fun x hx => hd x (List.mem_cons_of_mem _ hx)) c nt so aq fun x hx hxS => ?_
      by_cases z : x = t
      · subst z
        exact .inr ((R.tell _ cm).mp q)
      · exact h x hx fun y => (List.mem_cons.mp y).elim z hxS
    · have e1 : (fillStep fq st t).1 = sortD (st.1 ++ [t]) := by unfold fillStep; exact if_neg q
      rw [e1] at ih
      refine ih (fun x hx hm => ?_) cm (fun z => q ((R.tell _ cm).mpr z)) (fun x hx => grow (so hx)) aq fun x hx hxS => ?_
      · rcases List.mem_append.mp (sortD_mem.mp hm) with y | y
        · exact hd x (List.mem_cons_of_mem _ hx) y
        · simp only [List.mem_singleton] at y
          subst y
          exact hn1 hx
      · by_cases z : x = t
        · subst z
          exact .inl tin
        · rcases h x hx fun y => (List.mem_cons.mp y).elim z hxS with y | y
          · exact .inl (grow y)
          · refine .inr (y.mono fun u hu => sortD_mem.mpr ?_)
            rcases List.mem_append.mp (sortD_mem.mp hu) with v | v
            · exact List.mem_append_left _ (grow v)
            · exact List.mem_append_right _ v
theorem fill_is (R : Rise B ls fq) {one : List PyData} {qs : List (List PyData)} {n : Nat} (c : Can B one) (h0 : ¬ Tru ls one) (a : AQ B ls qs n) : MaxF B ls (fillD fq B one qs).1 ∧ one ⊆ (fillD fq B one qs).1 ∧ AQ B ls (fillD fq B one qs).2 (n + B.length) := by
  have hr := rest_mem R.fam c.sub
  obtain ⟨⟨h1, h2, h3, h4⟩, h5⟩ := fill_run R h0 c (restD B one) (one, qs) n (fun x hx => ((hr x).mp hx).1) (R.fam.nd.sublist List.filter_sublist) (fun x hx => ((hr x).mp hx).2) c h0 (fun _ => id) a fun x hx hn => .inl (Classical.byContradiction fun z => hn ((hr x).mpr ⟨hx, z⟩))
  refine ⟨⟨h1, h2, fun m cm nm sm x hx => ?_⟩, h3, h5.mono ?_⟩
  · rcases h4 x (cm.sub hx) with y | y
    · exact y
    · exact absurd (y.mono fun u hu => by
        rcases List.mem_append.mp (sortD_mem.mp hu) with v | v
        · exact sm v
        · simp only [List.mem_singleton] at v
          subst v
          exact hx) nm
  · have : (restD B one).length ≤ B.length := List.length_filter_le _ _
    omega
/-! ### the next meeting lists -/
structure GrOk (B : List PyData) (ls gr : List (List PyData)) : Prop where
  nd : gr.Nodup
  max : ∀ g ∈ gr, MaxF B ls g
theorem rests_sub {gr : List (List PyData)} : ∀ l ∈ gr.map (restD B), l ⊆ B := fun l hl => by
  obtain ⟨g, _, rfl⟩ := List.mem_map.mp hl
  exact fun x hx => (List.mem_filter.mp hx).1
theorem hits_rests (R : Rise B ls fq) {gr : List (List PyData)} (hg : ∀ g ∈ gr, g ⊆ B) {l : List PyData} (hl : l ⊆ B) : Hits (gr.map (restD B)) l ↔ ∀ g ∈ gr, ¬ l ⊆ g := by
  constructor
  · intro h g hm s
    obtain ⟨x, a, b⟩ := h (restD B g) (List.mem_map.mpr ⟨g, hm, rfl⟩)
    exact ((rest_mem R.fam (hg g hm) x).mp b).2 (s a)
  · intro h t ht
    obtain ⟨g, hm, rfl⟩ := List.mem_map.mp ht
    refine Classical.byContradiction fun z => h g hm fun x hx => Classical.byContradiction fun y => z ⟨x, hx, (rest_mem R.fam (hg g hm) x).mpr ⟨hl hx, y⟩⟩
/-- a meeting list of which True is told is a least one -/
theorem minT_of (R : Rise B ls fq) {gr : List (List PyData)} (hG : GrOk B ls gr) {l : List PyData} (h : MinHit B (gr.map (restD B)) l) (t : Tru ls l) : MinT B ls l := by
  have hg : ∀ g ∈ gr, g ⊆ B := fun g m => (hG.max g m).can.sub
  refine ⟨h.can, t, fun m cm tm sm => h.min m cm ((hits_rests R hg cm.sub).mpr fun g hgm s => (hG.max g hgm).no (tm.mono s)) sm⟩
theorem loop_is (R : Rise B ls fq) {gr : List (List PyData)} (hG : GrOk B ls gr) : ∀ (F qs : List (List PyData)) (n : Nat), (∀ l ∈ F, MinHit B (gr.map (restD B)) l) → AQ B ls qs n →
    (∀ qe, nextLoop fq F qs = (none, qe) → (∀ l ∈ F, Tru ls l) ∧ AQ B ls qe n) ∧ ∀ one qs1, nextLoop fq F qs = (some one, qs1) → one ∈ F ∧ ¬ Tru ls one ∧ AQ B ls qs1 (n + 1)
  | [], qs, n, _, a => ⟨fun qe e => by simp only [nextLoop, Prod.mk.injEq] at e; obtain ⟨_, rfl⟩ := e; exact ⟨(fun l hl => nomatch hl), a⟩, fun one qs1 e => by simp [nextLoop] at e⟩
  | l :: F, qs, n, h, a => by
    have hl := h l (List.mem_cons_self ..)
    unfold nextLoop
    by_cases q : fq l = true
    · have tl := (R.tell l hl.can).mp q
      obtain ⟨i1, i2⟩ := loop_is R hG F (askedAlso qs l) n (fun l' m => h l' (List.mem_cons_of_mem _ m)) (a.least R (minT_of R hG hl tl))
      rw [if_pos q]
      refine ⟨fun qe e => ?_, fun one qs1 e => ?_⟩
      · obtain ⟨b, c⟩ := i1 qe e
        refine ⟨fun l' m => ?_, c⟩
        rcases List.mem_cons.mp m with rfl | m
        · exact tl
        · exact b l' m
      · obtain ⟨b, c, d⟩ := i2 one qs1 e
        exact ⟨List.mem_cons_of_mem _ b, c, d⟩
    · rw [if_neg q]
      refine ⟨fun qe e => by simp at e, fun one qs1 e => ?_⟩
      simp only [Prod.mk.injEq, Option.some.injEq] at e
      obtain ⟨rfl, rfl⟩ := e
      exact ⟨List.mem_cons_self .., fun t => q ((R.tell _ hl.can).mpr t), a.also R hl.can⟩
theorem next_ok (R : Rise B ls fq) {qs gr : List (List PyData)} {n : Nat} (hG : GrOk B ls gr) (a : AQ B ls qs n) : NextOk B qs gr := by
  have hm := meetD_is R.fam (rests_sub (B := B) (gr := gr))
  refine ⟨fun g hg => ⟨fun x hx => (hG.max g hg).can.sub hx, ?_⟩, ?_, fun k => ?_, fun l hl => ?_, fun q hq => R.fine.good fun x hx => (a.can q hq).sub hx, ?_⟩
  · exact Nat.le_trans ((hG.max g hg).can.le (hG.max g hg).can.sub) (Nat.le_trans R.fam.few (by decide))
  · exact Nat.le_trans (few64 R.fam hG.nd fun g hg => (hG.max g hg).can) (by decide)
  · have hk := meetD_is R.fam (lots := (gr.map (restD B)).take k) fun l hl => rests_sub l (List.mem_of_mem_take hl)
    exact Nat.le_trans (few64 R.fam hk.1 fun l hl => ((hk.2 l).mp hl).can) (by decide)
  · have c := ((hm.2 l).mp hl).can
    exact ⟨Nat.le_trans (c.le c.sub) (Nat.le_trans R.fam.few (by decide)), c.sorted.symm⟩
  · exact Nat.le_trans (few64 R.fam a.nd a.can) (by decide)
/-- the asking ends -/
theorem runs_ex (R : Rise B ls fq) : ∀ (k : Nat) (qs gr : List (List PyData)), 64 - gr.length ≤ k → GrOk B ls gr → AQ B ls qs ((B.length + 1) * gr.length) →
    ∃ qe ge n, Runs fq B qs gr qe ge n ∧ GrOk B ls ge ∧ AQ B ls qe ((B.length + 1) * ge.length) ∧ ∀ l ∈ meetD (ge.map (restD B)), Tru ls l
  | k, qs, gr, hk, hG, a => by
    have hm := meetD_is R.fam (rests_sub (B := B) (gr := gr))
    have hl := loop_is R hG (meetD (gr.map (restD B))) qs _ (fun l hl => (hm.2 l).mp hl) a
    have no := next_ok R hG a
    cases e : nextLoop fq (meetD (gr.map (restD B))) qs with
    | mk o q1 =>
    cases o with
    | none =>
      obtain ⟨h1, h2⟩ := hl.1 q1 e
      exact ⟨q1, gr, 0, .done no e, hG, h2, h1⟩
    | some one =>
      obtain ⟨h1, h2, h3⟩ := hl.2 one q1 e
      have mh := (hm.2 one).mp h1
      obtain ⟨f1, f2, f3⟩ := fill_is R mh.can h2 h3
      have hg : ∀ g ∈ gr, g ⊆ B := fun g m => (hG.max g m).can.sub
      have new : (fillD fq B one q1).1 ∉ gr := fun z => (hits_rests R hg mh.can.sub).mp mh.hits _ z f2
      have hG2 : GrOk B ls (gr ++ [(fillD fq B one q1).1]) := ⟨List.nodup_append.mpr ⟨hG.nd, by simp, fun x hx y hy z => by
          simp only [List.mem_singleton] at hy
          subst hy
          exact new (z ▸ hx)⟩, fun g m => by
          rcases List.mem_append.mp m with y | y
          · exact hG.max g y
          · simp only [List.mem_singleton] at y
            subst y
            exact f1⟩
      have l64 := few64 R.fam hG2.nd fun g m => (hG2.max g m).can
      rw [List.length_append, List.length_singleton] at l64
      have a2 : AQ B ls (fillD fq B one q1).2 ((B.length + 1) * (gr ++ [(fillD fq B one q1).1]).length) := f3.mono (by
        rw [List.length_append, List.length_singleton, Nat.mul_add]
        omega)
      match k with
      | 0 => omega
      | k + 1 =>
        obtain ⟨qe, ge, m, r, x⟩ := runs_ex R k _ _ (by rw [List.length_append, List.length_singleton]; omega) hG2 a2
        exact ⟨qe, ge, m + 1, .more no e r, x⟩
/-- at the end all greatest ones are there -/
theorem ge_all (R : Rise B ls fq) {ge : List (List PyData)} (hG : GrOk B ls ge) (h : ∀ l ∈ meetD (ge.map (restD B)), Tru ls l) (g : List PyData) : g ∈ ge ↔ MaxF B ls g := by
  have hm := meetD_is R.fam (rests_sub (B := B) (gr := ge))
  have hg : ∀ g ∈ ge, g ⊆ B := fun g m => (hG.max g m).can.sub
  refine ⟨fun m => hG.max g m, fun x => Classical.byContradiction fun z => ?_⟩
  have hh : Hits (ge.map (restD B)) g := (hits_rests R hg x.can.sub).mpr fun g' hm s => z ((x.can.anti R.fam (hG.max g' hm).can s (x.max g' (hG.max g' hm).can (hG.max g' hm).no s)) ▸ hm)
  obtain ⟨l, ml, sl⟩ := minHit_ex R.fam x.can hh
  exact x.no ((h l ((hm.2 l).mpr ml)).mono sl)
theorem least_all (R : Rise B ls fq) {ge : List (List PyData)} (hG : GrOk B ls ge) (h : ∀ l ∈ meetD (ge.map (restD B)), Tru ls l) (l : List PyData) : l ∈ meetD (ge.map (restD B)) ↔ MinT B ls l := by
  have hm := meetD_is R.fam (rests_sub (B := B) (gr := ge))
  have hg : ∀ g ∈ ge, g ⊆ B := fun g m => (hG.max g m).can.sub
  constructor
  · intro hl
    exact minT_of R hG ((hm.2 l).mp hl) (h l hl)
  · intro m
    have hh : Hits (ge.map (restD B)) l := (hits_rests R hg m.can.sub).mpr fun g hgm s => (hG.max g hgm).no (m.yes.mono s)
    obtain ⟨k, mk, sk⟩ := minHit_ex R.fam m.can hh
    have hk := (hm.2 k).mpr mk
    exact mk.can.anti R.fam m.can sk (m.min k mk.can (h k hk) sk) ▸ hk
end
end K48
set_option Elab.async false
set_option linter.all false
set_option maxRecDepth 100000
set_option maxHeartbeats 4000000
/-! M48d: the drawn things; loosened data; what the law asks of meeting -/
namespace K48
open PySem PySem.Spec PyProof.Rows L2 PD StX RZ
/-! ### the families -/
def thgB : PyData → Bool
  | .str _ => true
  | .tuple ds => ds.all isS && decide (ds.length ≤ 3)
  | _ => false
theorem strs_of : ∀ {ds : List PyData}, ds.all isS = true → ∃ ss : List Str, ds = ss.map .str
  | [], _ => ⟨[], rfl⟩
  | d :: ds, h => by
    rw [List.all_cons, Bool.and_eq_true] at h
    obtain ⟨ss, rfl⟩ := strs_of h.2
    cases d with
    | str s => exact ⟨s :: ss, rfl⟩
    | _ => simp [isS] at h
theorem thg_ofB {d : PyData} (h : thgB d = true) : thgD d := by
  cases d with
  | str s => exact .inl ⟨s, rfl⟩
  | tuple ds =>
    simp only [thgB, Bool.and_eq_true] at h
    obtain ⟨ss, rfl⟩ := strs_of h.1
    exact .inr ⟨ss, rfl⟩
  | _ => simp [thgB] at h
def famOk (F : List PyData) : Bool := F.all fun x => thgB x && (plainK x && (decide (x.depth ≤ 3) && (noList x && (x.canLay0 && F.all fun y => PySem.W.alike x y))))
theorem fam_ok {F : List PyData} (h : IsFam F) : famOk F = true := by
  rcases h with rfl | rfl | rfl <;> decide +kernel
theorem fam_nd {F : List PyData} (h : IsFam F) : F.Pairwise fun a b => PyData.eqv a b = false := by
  rcases h with rfl | rfl | rfl <;> decide +kernel
/-- a drawn list of things -/
structure Thgs (ts : List PyData) : Prop where
  fam : Fam ts
  fine : FineT ts
  nol : ∀ x ∈ ts, noList x = true
  few : ∀ x ∈ ts, (itemsD x).length ≤ 3
theorem thgs_of {ts : List PyData} (h : Things ts) : Thgs ts := by
  obtain ⟨F, ys, j, hF, hp, hj, rfl⟩ := h
  have sub : ∀ x ∈ ys.take j, x ∈ F := fun x hx => hp.mem_iff.mp (List.mem_of_mem_take hx)
  have ok := fam_ok hF
  have at_ : ∀ x ∈ F, thgB x = true ∧ plainK x = true ∧ x.depth ≤ 3 ∧ noList x = true ∧ x.canLay0 = true ∧ ∀ y ∈ F, PySem.W.alike x y = true := fun x hx => by
    have q := List.all_eq_true.mp ok x hx
    simp only [Bool.and_eq_true, decide_eq_true_eq, List.all_eq_true] at q
    exact q
  have nd : F.Nodup := (fam_nd hF).imp_of_mem fun {a b} ha hb e z => by
    subst z
    rw [(thg_eqv (thg_ofB (at_ a ha).1) (thg_ofB (at_ a ha).1)).mpr rfl] at e
    cases e
  have kin : Kin (ys.take j) := ⟨fun d hd e he => (at_ d (sub d hd)).2.2.2.2.2 e (sub e he), fun d hd => ⟨fun z => by
    have := (at_ d (sub d hd)).1
    subst z
    simp [thgB] at this, (at_ d (sub d hd)).2.2.2.2.1, (at_ d (sub d hd)).2.2.1⟩⟩
  have len : (ys.take j).length ≤ 6 := by rw [List.length_take]; omega
  refine ⟨⟨(hp.nodup_iff.mpr nd).sublist (List.take_sublist j ys), kin, fun x hx => thg_ofB (at_ x (sub x hx)).1, len⟩, ⟨fun x hx => ⟨(at_ x (sub x hx)).2.1, (at_ x (sub x hx)).2.2.1⟩, kin, Nat.le_trans len (by decide)⟩, fun x hx => (at_ x (sub x hx)).2.2.2.1, fun x hx => ?_⟩
  have := (at_ x (sub x hx)).1
  cases x with
  | str _ => simp [itemsD]
  | tuple ds =>
    simp only [thgB, Bool.and_eq_true, decide_eq_true_eq] at this
    exact this.2
  | _ => simp [thgB] at this
theorem Thgs.sub {ts us : List PyData} (h : Thgs ts) (s : us ⊆ ts) (n : us.Nodup) : Thgs us := by
  have kin := h.fam.kin.sub s
  have len : us.length ≤ 6 := Nat.le_trans (n.length_le_of_subset s) h.fam.few
  exact ⟨⟨n, kin, fun x hx => h.fam.thg x (s hx), len⟩, ⟨fun x hx => h.fine.1 x (s hx), kin, Nat.le_trans len (by decide)⟩, fun x hx => h.nol x (s hx), fun x hx => h.few x (s hx)⟩
theorem Thgs.sort {ts : List PyData} (h : Thgs ts) : Thgs (sortD ts) := h.sub (fun x hx => sortD_mem.mp hx) ((sortD_perm ts).nodup_iff.mpr h.fam.nd)
/-- drawn lots of things -/
structure LotsOk (ts : List PyData) (ls : List (List PyData)) : Prop where
  sub : ∀ l ∈ ls, l ⊆ ts
  nd : ∀ l ∈ ls, l.Nodup
  few : ls.length ≤ 64
theorem lots_ok {ts : List PyData} {ls : List (List PyData)} {m : Nat} (F : Fam ts) (h : Lots ts m ls) (hm : m ≤ 64) : LotsOk ts ls := by
  refine ⟨fun l hl x hx => ?_, fun l hl => ?_, Nat.le_trans h.1 hm⟩
  · obtain ⟨ys, hp, hs⟩ := h.2 l hl
    exact hp.mem_iff.mp (hs.subset hx)
  · obtain ⟨ys, hp, hs⟩ := h.2 l hl
    exact (hp.nodup_iff.mpr F.nd).sublist hs
/-! ### data that say some things -/
/-- d says the things ts -/
structure KSays (ts : List PyData) (d : PyData) : Prop where
  seq : isSeq d = true
  eq : (itemsD d).map keptD = ts
  few : ∀ o ∈ itemsD d, (itemsD o).length ≤ 1000
structure LSays (ls : List (List PyData)) (d : PyData) : Prop where
  seq : isSeq d = true
  all : ∃ ks : List PyData, itemsD d = ks ∧ ks.length = ls.length ∧ ∀ b ∈ ks.zip ls, KSays b.2 b.1
theorem kept_thg {x : PyData} (h : thgD x) : keptD x = x := by
  rcases h with ⟨s, rfl⟩ | ⟨ss, rfl⟩
  · rfl
  · have : (ss.map PyData.str).all isS = true := by simp [isS]
    simp [keptD, this]
theorem lz_strs : ∀ {ss : List Str} {ys : List PyData}, LzAll (ss.map .str) ys → ys = ss.map .str
  | [], _, h => by cases h; rfl
  | s :: ss, _, h => by
    cases h with
    | cons a b =>
      rw [lz_strs b]
      cases a with
      | same _ => rfl
      | seq h _ _ => simp [isSeq] at h
theorem lz_kept {x y : PyData} (h : thgD x) (l : Lz x y) : keptD y = x := by
  rcases h with ⟨s, rfl⟩ | ⟨ss, rfl⟩
  · cases l with
    | same _ => rfl
    | seq h _ _ => simp [isSeq] at h
  · cases l with
    | same h => simp [isSeq] at h
    | seq _ h e =>
      have q := lz_strs h
      subst q
      have : (ss.map PyData.str).all isS = true := by simp [isS]
      rcases e with rfl | rfl <;> simp [keptD, this]
theorem lz_len {x y : PyData} (h : thgD x) (l : Lz x y) : (itemsD y).length = (itemsD x).length := by
  cases l with
  | same _ => rfl
  | seq _ h e => rcases e with rfl | rfl <;> exact (lzLen h).symm
theorem lz_keptAll : ∀ {ts ys : List PyData}, (∀ x ∈ ts, thgD x ∧ (itemsD x).length ≤ 3) → LzAll ts ys → ys.map keptD = ts ∧ ∀ o ∈ ys, (itemsD o).length ≤ 1000
  | [], _, _, h => by cases h; exact ⟨rfl, fun o ho => nomatch ho⟩
  | t :: ts, _, ht, h => by
    cases h with
    | cons a b =>
      obtain ⟨q1, q2⟩ := lz_keptAll (fun x hx => ht x (List.mem_cons_of_mem _ hx)) b
      have h0 := ht t (List.mem_cons_self ..)
      refine ⟨by rw [List.map_cons, q1, lz_kept h0.1 a], fun o ho => ?_⟩
      rcases List.mem_cons.mp ho with rfl | ho
      · rw [lz_len h0.1 a]; omega
      · exact q2 o ho
theorem ksays_lz {ts : List PyData} {d : PyData} (T : Thgs ts) (h : Lz (.list ts) d) : KSays ts d := by
  cases h with
  | same h => simp [isSeq] at h
  | @seq _ ys _ _ h e =>
    have h : LzAll ts ys := h
    obtain ⟨q1, q2⟩ := lz_keptAll (fun x hx => ⟨T.fam.thg x hx, T.few x hx⟩) h
    rcases e with rfl | rfl
    · exact ⟨rfl, q1, q2⟩
    · exact ⟨rfl, q1, q2⟩
theorem ksays_self {ts : List PyData} (T : Thgs ts) : KSays ts (.list ts) := by
  refine ⟨rfl, ?_, fun o ho => Nat.le_trans (T.few o ho) (by decide)⟩
  show ts.map keptD = ts
  have : ∀ l : List PyData, (∀ x ∈ l, thgD x) → l.map keptD = l := fun l => by
    induction l with
    | nil => intro _; rfl
    | cons a l ih => intro h; rw [List.map_cons, kept_thg (h a (List.mem_cons_self ..)), ih fun x hx => h x (List.mem_cons_of_mem _ hx)]
  exact this ts T.fam.thg
theorem lsays_zip {ts : List PyData} (T : Thgs ts) : ∀ {ls : List (List PyData)} {ys : List PyData}, (∀ l ∈ ls, l ⊆ ts ∧ l.Nodup) → LzAll (ls.map .list) ys → ys.length = ls.length ∧ ∀ b ∈ ys.zip ls, KSays b.2 b.1
  | [], _, _, h => by cases h; exact ⟨rfl, fun b hb => nomatch hb⟩
  | l :: ls, _, hl, h => by
    cases h with
    | cons a b =>
      obtain ⟨q1, q2⟩ := lsays_zip T (fun x hx => hl x (List.mem_cons_of_mem _ hx)) b
      have h0 := hl l (List.mem_cons_self ..)
      refine ⟨by simp [q1], fun c hc => ?_⟩
      rw [List.zip_cons_cons] at hc
      rcases List.mem_cons.mp hc with rfl | hc
      · exact ksays_lz (T.sub h0.1 h0.2) a
      · exact q2 c hc
theorem lsays_lz {ts : List PyData} {ls : List (List PyData)} {d : PyData} (T : Thgs ts) (L : LotsOk ts ls) (h : Lz (.list (ls.map .list)) d) : LSays ls d := by
  cases h with
  | same h => simp [isSeq] at h
  | @seq _ ys _ _ h e =>
    have h : LzAll (ls.map .list) ys := h
    obtain ⟨q1, q2⟩ := lsays_zip T (fun l hl => ⟨L.sub l hl, L.nd l hl⟩) h
    rcases e with rfl | rfl
    · exact ⟨rfl, ys, rfl, q1, q2⟩
    · exact ⟨rfl, ys, rfl, q1, q2⟩
theorem lsays_self {ts : List PyData} {ls : List (List PyData)} (T : Thgs ts) (L : LotsOk ts ls) : LSays ls (.list (ls.map .list)) := by
  refine ⟨rfl, _, rfl, by simp [itemsD], fun b hb => ?_⟩
  have : ∀ (ls : List (List PyData)), ∀ b ∈ (ls.map PyData.list).zip ls, b.2 ∈ ls ∧ b.1 = .list b.2 := fun ls => by
    induction ls with
    | nil => intro b hb; cases hb
    | cons l ls ih =>
      intro b hb
      rw [List.map_cons, List.zip_cons_cons] at hb
      rcases List.mem_cons.mp hb with rfl | hb
      · exact ⟨List.mem_cons_self .., rfl⟩
      · exact ⟨List.mem_cons_of_mem _ (ih b hb).1, (ih b hb).2⟩
  obtain ⟨h1, h2⟩ := this ls b hb
  rw [h2]
  exact ksays_self (T.sub (L.sub _ h1) (L.nd _ h1))
/-! ### what the checks say -/
theorem KSays.keys {ts : List PyData} {d : PyData} (k : KSays ts d) : keysD d = ts := by unfold keysD; rw [if_pos k.seq]; exact k.eq
theorem KSays.len {ts : List PyData} {d : PyData} (k : KSays ts d) : (itemsD d).length = ts.length := by rw [← k.eq, List.length_map]
theorem enumN_get : ∀ {k : Nat} {ds : List PyData} {b : Nat × PyData}, b ∈ enumN k ds → k ≤ b.1 ∧ ds[b.1 - k]? = some b.2
  | _, [], b, h => by simp [enumN] at h
  | k, d :: ds, b, h => by
    rw [enumN] at h
    rcases List.mem_cons.mp h with rfl | h
    · simp
    · obtain ⟨h1, h2⟩ := enumN_get h
      refine ⟨by omega, ?_⟩
      rw [show b.1 - k = (b.1 - (k + 1)) + 1 from by omega, List.getElem?_cons_succ]
      exact h2
theorem unlike_of {A ds : List PyData} (F : Fam A) (hs : ds ⊆ A) (nd : ds.Nodup) : unlikeD ds = true := by
  unfold unlikeD
  rw [List.all_eq_true]
  intro b hb
  obtain ⟨_, hg⟩ := enumN_get hb
  rw [Nat.sub_zero] at hg
  have hm := List.mem_of_getElem? hg
  cases e : hasD (ds.take b.1) b.2 with
  | false => rfl
  | true =>
    have hx := (F.has (fun x hx => hs (List.mem_of_mem_take hx)) (hs hm)).mp e
    obtain ⟨i, hi⟩ := List.mem_iff_getElem?.mp hx
    have lt : i < b.1 := by
      rcases Nat.lt_or_ge i b.1 with q | q
      · exact q
      · rw [List.getElem?_eq_none (by rw [List.length_take]; omega)] at hi
        cases hi
    rw [List.getElem?_take_of_lt lt] at hi
    have i1 := (List.getElem?_eq_some_iff.mp hi)
    have i2 := (List.getElem?_eq_some_iff.mp hg)
    obtain ⟨l1, e1⟩ := i1
    obtain ⟨l2, e2⟩ := i2
    exact absurd (e1.trans e2.symm) (List.pairwise_iff_getElem.mp nd i b.1 l1 l2 lt)
theorem mix_of {ds : List PyData} (F : Fam ds) : badMix ds = false := by
  unfold badMix
  rw [List.any_eq_false]
  intro o ho
  cases ds with
  | nil => cases ho
  | cons h t =>
    have al := F.kin.1 o ho h (List.mem_cons_self ..)
    show ¬ (isS o != isS h) = true
    rcases F.thg o ho with ⟨s, rfl⟩ | ⟨s, rfl⟩ <;> rcases F.thg h (List.mem_cons_self ..) with ⟨u, rfl⟩ | ⟨u, rfl⟩ <;> first | (simp [isS]; done) | (simp [PySem.W.alike] at al)
theorem none_of {ds : List PyData} (F : Fam ds) : hasD ds .none = false := by
  unfold hasD
  rw [List.any_eq_false]
  intro o ho
  rcases F.thg o ho with ⟨s, rfl⟩ | ⟨s, rfl⟩ <;> simp [PyData.eqv]
theorem KSays.good {ts : List PyData} {d : PyData} (T : Thgs ts) (k : KSays ts d) : badK d = false := by
  unfold badK
  rw [k.keys, none_of T.fam, unlike_of T.fam (fun _ => id) T.fam.nd, mix_of T.fam]
  rfl
theorem KSays.small {ts : List PyData} {d : PyData} (T : Thgs ts) (k : KSays ts d) : SmallK d := by
  have := T.fam.few
  refine ⟨?_, ?_, ?_, k.few⟩
  · rw [k.keys]; exact T.fam.kin.shL.mono (by decide)
  · rw [k.keys]; omega
  · rw [k.len]; omega
theorem zip_fst_mem {α β : Type} : ∀ {ks : List α} {ls : List β}, ks.length = ls.length → ∀ k ∈ ks, ∃ l, l ∈ ls ∧ (k, l) ∈ ks.zip ls
  | [], _, _, k, h => nomatch h
  | k :: ks, [], e, _, _ => by simp at e
  | k :: ks, l :: ls, e, x, h => by
    rcases List.mem_cons.mp h with rfl | h
    · exact ⟨l, List.mem_cons_self .., by simp⟩
    · obtain ⟨l', h1, h2⟩ := zip_fst_mem (by simpa using e) x h
      exact ⟨l', List.mem_cons_of_mem _ h1, by simp [h2]⟩
theorem zip_map_eq {α β : Type} {f : α → β} : ∀ {ks : List α} {ls : List β}, ks.length = ls.length → (∀ b ∈ ks.zip ls, f b.1 = b.2) → ks.map f = ls
  | [], [], _, _ => rfl
  | [], _ :: _, e, _ => by simp at e
  | _ :: _, [], e, _ => by simp at e
  | k :: ks, l :: ls, e, h => by rw [List.map_cons, h (k, l) (by simp), zip_map_eq (by simpa using e) fun b hb => h b (by simp [hb])]
theorem LSays.keys {ls : List (List PyData)} {d : PyData} (k : LSays ls d) : (itemsD d).map keysD = ls := by
  obtain ⟨ks, rfl, e, h⟩ := k.all
  exact zip_map_eq e fun b hb => (h b hb).keys
theorem LSays.item {ls : List (List PyData)} {d : PyData} (k : LSays ls d) : ∀ o ∈ itemsD d, ∃ l ∈ ls, KSays l o := fun o ho => by
  obtain ⟨ks, rfl, e, h⟩ := k.all
  obtain ⟨l, h1, h2⟩ := zip_fst_mem e o ho
  exact ⟨l, h1, h _ h2⟩
theorem LSays.lots {ls : List (List PyData)} {d : PyData} (k : LSays ls d) : lotsOf d = ls.map sortD := by
  unfold lotsOf
  rw [← k.keys, List.map_map]
  rfl
theorem LSays.len {ls : List (List PyData)} {d : PyData} (k : LSays ls d) : (itemsD d).length = ls.length := by
  rw [← k.keys, List.length_map]
theorem meet_is {ts : List PyData} {ls : List (List PyData)} {dk dl : PyData} (T : Thgs ts) (L : LotsOk ts ls) (kk : KSays ts dk) (kl : LSays ls dl) : MeetIs dk dl (sortLD (meetD (ls.map sortD))) := by
  have t6 := T.fam.few
  have hts : ∀ l ∈ ls, l.length ≤ 6 := fun l hl => Nat.le_trans ((L.nd l hl).length_le_of_subset (L.sub l hl)) t6
  refine ⟨kk.small T, kk.good T, by rw [kk.keys]; exact T.fam.kin, ⟨by rw [kl.len]; have := L.few; omega, fun o ho => ?_⟩, ?_, ⟨by rw [kk.keys]; exact T.fam.kin, fun o ho x hx => ?_, fun o ho => ?_, by rw [kl.len]; have := L.few; omega, fun k => ?_⟩, by unfold meetingD; rw [kl.lots]⟩
  · obtain ⟨l, hl, ko⟩ := kl.item o ho
    exact ko.small (T.sub (L.sub l hl) (L.nd l hl))
  · unfold badL
    rw [kl.seq, kl.keys]
    have : ls.all (lotOk (thingsD dk)) = true := by
      rw [List.all_eq_true]
      intro l hl
      unfold lotOk
      rw [unlike_of T.fam (L.sub l hl) (L.nd l hl), Bool.true_and, List.all_eq_true]
      intro x hx
      unfold thingsD
      rw [kk.keys]
      exact (T.fam.has (fun y hy => sortD_mem.mp hy) (L.sub l hl hx)).mpr (sortD_mem.mpr (L.sub l hl hx))
    rw [this]
    rfl
  · obtain ⟨l, hl, ko⟩ := kl.item o ho
    rw [kk.keys]
    rw [ko.keys] at hx
    exact L.sub l hl hx
  · obtain ⟨l, hl, ko⟩ := kl.item o ho
    rw [ko.keys]
    have := hts l hl
    omega
  · rw [kl.lots]
    have hk := meetD_is T.fam (lots := (ls.map sortD).take k) fun l hl => by
      obtain ⟨u, hu, rfl⟩ := List.mem_map.mp (List.mem_of_mem_take hl)
      exact fun x hx => L.sub u hu (sortD_mem.mp hx)
    exact Nat.le_trans (few64 T.fam hk.1 fun l hl => ((hk.2 l).mp hl).can) (by decide)
end K48
set_option Elab.async false
set_option linter.all false
set_option maxRecDepth 100000
set_option maxHeartbeats 4000000
/-! M48e: what the law asks of meeting, for drawn things and lots -/
namespace K48
open PySem PySem.Spec PyProof.Rows L2 PD StX RZ
/-! ### how deep, how many -/
theorem rel_up {k : Nat} {d : PyData} (h : Rel k d) : Rel (k + 1) d := by
  induction h with
  | leaf a b c => exact .leaf a b c
  | seq a b _ ih => exact .seq a b ih
theorem rel_list {k : Nat} {ds : List PyData} (h : ∀ x ∈ ds, Rel k x) (n : ds.length ≤ 1000) : Rel (k + 1) (.list ds) := .seq rfl n h
theorem rel_tuple {k : Nat} {ds : List PyData} (h : ∀ x ∈ ds, Rel k x) (n : ds.length ≤ 1000) : Rel (k + 1) (.tuple ds) := .seq rfl n h
theorem rel_leaf {k : Nat} {d : PyData} (h : isSeq d = false) (hd : isD d = false) (s : Sh 3 d) : Rel k d := .leaf h (fun z => by rw [hd] at z; cases z) fun _ => s.shaped (by decide)
theorem lay_mem : ∀ {ds : List PyData}, PyData.canLayAll0 ds = true → ∀ d ∈ ds, d.canLay0 = true
  | [], _, d, h => nomatch h
  | e :: ds, h, d, hd => by
    simp only [PyData.canLayAll0, Bool.and_eq_true] at h
    rcases List.mem_cons.mp hd with rfl | hd
    · exact h.1
    · exact lay_mem h.2 d hd
theorem rel_thg {x : PyData} (h : thgD x) (n : (itemsD x).length ≤ 3) (s : Sh 3 x) : Rel 1 x := by
  rcases h with ⟨t, rfl⟩ | ⟨ss, rfl⟩
  · exact rel_leaf rfl rfl s
  · refine .seq rfl (Nat.le_trans n (by decide)) fun y hy => ?_
    obtain ⟨t, ht, rfl⟩ := List.mem_map.mp hy
    have l := s.1
    simp only [PyData.canLay0] at l
    exact rel_leaf rfl rfl ⟨lay_mem l _ hy, by simp [PyData.depth]⟩
theorem flat_thg {x : PyData} (h : thgD x) (n : (itemsD x).length ≤ 3) : Flat 1 x := by
  rcases h with ⟨s, rfl⟩ | ⟨ss, rfl⟩
  · exact .leaf rfl
  · refine .seq rfl (Nat.le_trans n (by decide)) fun y hy => ?_
    obtain ⟨s, _, rfl⟩ := List.mem_map.mp hy
    exact .leaf rfl
theorem nodes_strs : ∀ ss : List Str, nodesL (ss.map .str) = 0
  | [] => rfl
  | s :: ss => by rw [List.map_cons, nodesL, nodes_strs ss]; rfl
theorem nodes_thg {x : PyData} (h : thgD x) : nodes x ≤ 1 := by
  rcases h with ⟨s, rfl⟩ | ⟨ss, rfl⟩
  · exact Nat.zero_le _
  · rw [nodes, nodes_strs]; exact Nat.le_refl _
theorem nodesL_le {n : Nat} : ∀ {ds : List PyData}, (∀ x ∈ ds, nodes x ≤ n) → nodesL ds ≤ n * ds.length
  | [], _ => Nat.zero_le _
  | d :: ds, h => by
    have a := h d (List.mem_cons_self ..)
    have b := nodesL_le fun x hx => h x (List.mem_cons_of_mem _ hx)
    rw [nodesL, List.length_cons, Nat.mul_add]
    omega
section
variable {ts : List PyData} {ls : List (List PyData)}
theorem Thgs.rel (T : Thgs ts) {l : List PyData} (h : l ⊆ ts) (n : l.length ≤ 1000) : Rel 2 (.list l) := rel_list (fun x hx => rel_thg (T.fam.thg x (h hx)) (T.few x (h hx)) (T.fam.kin.2 x (h hx)).2) n
theorem Thgs.relL (T : Thgs ts) {L : List (List PyData)} (h : ∀ l ∈ L, l ⊆ ts ∧ l.length ≤ 1000) (n : L.length ≤ 1000) : Rel 3 (.list (L.map .list)) := rel_list (fun x hx => by
  obtain ⟨l, hl, rfl⟩ := List.mem_map.mp hx
  exact T.rel (h l hl).1 (h l hl).2) (by rw [List.length_map]; exact n)
theorem Thgs.flat (T : Thgs ts) : Flat 3 (.list ts) ∧ nodes (.list ts) ≤ 1000 := by
  have := T.fam.few
  refine ⟨.seq rfl (by show ts.length ≤ 1000; omega) fun x hx => ?_, ?_⟩
  · have f := flat_thg (T.fam.thg x hx) (T.few x hx)
    cases f with
    | leaf h => exact .leaf h
    | seq a b c => exact .seq a b fun y hy => match c y hy with | .leaf h => .leaf h
  · have := nodesL_le (n := 1) fun x hx => nodes_thg (T.fam.thg x hx)
    rw [nodes]
    omega
theorem Thgs.flatL (T : Thgs ts) (L : LotsOk ts ls) : Flat 3 (.list (ls.map .list)) ∧ nodes (.list (ls.map .list)) ≤ 1000 := by
  have t6 := T.fam.few
  have l64 := L.few
  have hts : ∀ l ∈ ls, l.length ≤ 6 := fun l hl => Nat.le_trans ((L.nd l hl).length_le_of_subset (L.sub l hl)) t6
  refine ⟨.seq rfl (by show (ls.map PyData.list).length ≤ 1000; rw [List.length_map]; omega) fun x hx => ?_, ?_⟩
  · obtain ⟨l, hl, rfl⟩ := List.mem_map.mp hx
    exact .seq rfl (by have := hts l hl; show l.length ≤ 1000; omega) fun y hy => flat_thg (T.fam.thg y (L.sub l hl hy)) (T.few y (L.sub l hl hy))
  · have := nodesL_le (n := 7) (ds := ls.map .list) fun x hx => by
      obtain ⟨l, hl, rfl⟩ := List.mem_map.mp hx
      have a := nodesL_le (n := 1) fun y hy => nodes_thg (T.fam.thg y (L.sub l hl hy))
      have b := hts l hl
      rw [nodes]
      omega
    rw [List.length_map] at this
    rw [nodes]
    omega
/-- lists of the base, each once -/
theorem lotsOk_can (T : Thgs ts) {M : List (List PyData)} (nd : M.Nodup) (h : ∀ l ∈ M, Can ts l) : LotsOk ts M := ⟨fun l hl => (h l hl).sub, fun l hl => (h l hl).nd, few64 T.fam nd h⟩
theorem map_sort_id {M : List (List PyData)} (h : ∀ l ∈ M, Can ts l) : M.map sortD = M := by
  induction M with
  | nil => rfl
  | cons l M ih => rw [List.map_cons, (h l (List.mem_cons_self ..)).sorted, ih fun x hx => h x (List.mem_cons_of_mem _ hx)]
theorem lst_can (T : Thgs ts) (L : LotsOk ts ls) : ∀ l ∈ leastOfD ls, Can ts l := fun l hl => by
  obtain ⟨_, h2, h3⟩ := leastOf_is T.fam L.sub L.nd
  exact h3 l ((h2 l).mp hl).1
theorem can_num (T : Thgs ts) {M : List (List PyData)} (nd : M.Nodup) (h : ∀ l ∈ M, Can ts l) : M.length ≤ 64 ∧ ∀ l ∈ M, l ⊆ ts ∧ l.length ≤ 6 := ⟨few64 T.fam nd h, fun l hl => ⟨(h l hl).sub, Nat.le_trans ((h l hl).le (h l hl).sub) T.fam.few⟩⟩
theorem can_rel (T : Thgs ts) {M : List (List PyData)} (nd : M.Nodup) (h : ∀ l ∈ M, Can ts l) : Rel 3 (.list (M.map .list)) := by
  obtain ⟨a, b⟩ := can_num T nd h
  exact T.relL (fun l hl => ⟨(b l hl).1, by have := (b l hl).2; omega⟩) (by omega)
theorem meet_right (T : Thgs ts) (L : LotsOk ts ls) : MeetR ts ls := by
  have t6 := T.fam.few
  have l64 := L.few
  have hts : ∀ l ∈ ls, l.length ≤ 6 := fun l hl => Nat.le_trans ((L.nd l hl).length_le_of_subset (L.sub l hl)) t6
  obtain ⟨m1, m2⟩ := lawMeet_is T.fam L.sub
  have mc : ∀ l ∈ lawMeetD ts ls, Can ts l := fun l hl => ((m2 l).mp hl).can
  obtain ⟨n1, n2⟩ := can_num T m1 mc
  have ml := meet_law T.fam L.sub
  obtain ⟨o1, _, _⟩ := leastOf_is T.fam L.sub L.nd
  have oc := lst_can T L
  refine ⟨⟨ts, ts, ls, rfl, T.fam.kin, by omega, ⟨T.fam.kin, fun l hl x hx => L.sub l hl hx⟩, fun l hl => by have := hts l hl; omega, by omega⟩, fun dk dl z1 z2 => ml ▸ meet_is T L (ksays_lz T z1) (lsays_lz T L z2), ml ▸ meet_is T L (ksays_self T) (lsays_self T L), ?_, ⟨_, ts, ls, rfl, rfl, ⟨T.fam.kin, fun l hl x hx => L.sub l hl hx⟩, fun l hl => by have := hts l hl; omega, by omega⟩, ⟨T.flat.1, (T.flatL L).1, T.flat.2, (T.flatL L).2⟩, ⟨?_, rel_up (can_rel T m1 mc), rel_up (can_rel T o1 oc)⟩, fun l hl x hx => T.fam.thg x ((n2 l hl).1 hx), ⟨by omega, fun l hl => by have := (n2 l hl).2; omega⟩⟩
  · have L2 := lotsOk_can T m1 mc
    have q := meet_is T L2 (ksays_self T) (lsays_self T L2)
    rw [map_sort_id mc, meet_back T.fam L.sub L.nd] at q
    exact q
  · refine rel_list (fun x hx => ?_) (by simp)
    have : x = .list ((lawMeetD ts ls).map .list) := by simpa using hx
    subst this
    exact can_rel T m1 mc
end
end K48
set_option Elab.async false
set_option linter.all false
set_option maxRecDepth 100000
set_option maxHeartbeats 4000000
/-! M48f: what the law asks of charted -/
namespace K48
open PySem PySem.Spec PyProof.Rows L2 PD StX RZ
theorem pow_nodup : ∀ (ts : List PyData) (F : List (List PyData)), F.Nodup → ts.Nodup → (∀ f ∈ F, ∀ x ∈ f, x ∉ ts) → (ts.foldl powStep F).Nodup
  | [], F, h, _, _ => h
  | t :: ts, F, h, hn, hd => by
    rw [List.foldl_cons]
    obtain ⟨n1, n2⟩ := List.nodup_cons.mp hn
    have nt : ∀ f ∈ F, t ∉ f := fun f hf z => hd f hf t z (List.mem_cons_self ..)
    refine pow_nodup ts (powStep F t) ?_ n2 fun f hf x hx => ?_
    · unfold powStep
      refine List.nodup_append.mpr ⟨h, ?_, fun a ha b hb e => ?_⟩
      · exact List.Pairwise.map _ (fun a b hab e => hab (List.append_cancel_right e)) h
      · obtain ⟨g, hg, rfl⟩ := List.mem_map.mp hb
        subst e
        exact nt _ ha (by simp)
    · unfold powStep at hf
      rcases List.mem_append.mp hf with q | q
      · exact fun z => hd f q x hx (List.mem_cons_of_mem _ z)
      · obtain ⟨g, hg, rfl⟩ := List.mem_map.mp q
        rcases List.mem_append.mp hx with y | y
        · exact fun z => hd g hg x y (List.mem_cons_of_mem _ z)
        · simp only [List.mem_singleton] at y
          subst y
          exact n1
theorem lots_nodup {ts : List PyData} (h : ts.Nodup) : (lotsD ts).Nodup := by
  unfold lotsD
  exact (List.mergeSort_perm _ _).nodup_iff.mpr (pow_nodup ts [[]] (by simp) h fun f hf x hx => by simp at hf; subst hf; cases hx)
/-- all that can be had without holding a lot, and no more can be -/
def topD (ts : List PyData) (ls : List (List PyData)) (s : List PyData) : Bool := (ts.filter fun x => !hasD s x).all fun x => askD ls (s ++ [x])
def falseD (ts : List PyData) (ls : List (List PyData)) : List (List PyData) := (lotsD (sortD ts)).filter fun s => !askD ls s
def greatD (ts : List PyData) (ls : List (List PyData)) : List (List PyData) := (falseD ts ls).filter (topD ts ls)
def restsD (ts : List PyData) (ls : List (List PyData)) : List (List PyData) := (greatD ts ls).map (restD (sortD ts))
section
variable {ts : List PyData} {ls : List (List PyData)}
theorem ask_tell (F : Fam ts) (L : LotsOk ts ls) {l : List PyData} (h : l ⊆ ts) : askD ls l = true ↔ Tru ls l := by
  unfold askD
  rw [List.any_eq_true]
  exact ⟨fun ⟨t, a, b⟩ => ⟨t, a, (F.within (L.sub t a) h).mp b⟩, fun ⟨t, a, b⟩ => ⟨t, a, (F.within (L.sub t a) h).mpr b⟩⟩
theorem rise_of (T : Thgs ts) (L : LotsOk ts ls) : Rise (sortD ts) ls (askD ls) :=
  ⟨T.sort.fam, T.sort.fine, ⟨T.sort.fam.nd, sortD_sorted ts, fun _ => id⟩, fun l hl x hx => sortD_mem.mpr (L.sub l hl hx), fun l hl => ask_tell T.fam L fun x hx => sortD_mem.mp (hl.sub hx)⟩
theorem can_base {A B l : List PyData} (h : ∀ x, x ∈ A ↔ x ∈ B) : Can A l ↔ Can B l := ⟨fun c => ⟨c.nd, c.srt, fun x hx => (h x).mp (c.sub hx)⟩, fun c => ⟨c.nd, c.srt, fun x hx => (h x).mpr (c.sub hx)⟩⟩
theorem can_srt {l : List PyData} : Can ts l ↔ Can (sortD ts) l := can_base fun x => sortD_mem.symm
theorem minHit_srt {lots : List (List PyData)} {l : List PyData} : MinHit ts lots l ↔ MinHit (sortD ts) lots l :=
  ⟨fun h => ⟨can_srt.mp h.can, h.hits, fun m c => h.min m (can_srt.mpr c)⟩, fun h => ⟨can_srt.mpr h.can, h.hits, fun m c => h.min m (can_srt.mp c)⟩⟩
/-- the law's greatest lists -/
theorem great_is (T : Thgs ts) (L : LotsOk ts ls) : (greatD ts ls).Nodup ∧ ∀ g, g ∈ greatD ts ls ↔ MaxF (sortD ts) ls g := by
  have F := T.fam
  refine ⟨((lots_nodup (F.canA.nd)).sublist List.filter_sublist).sublist List.filter_sublist, fun g => ?_⟩
  unfold greatD falseD
  rw [List.mem_filter, List.mem_filter, all_mem F]
  constructor
  · rintro ⟨⟨c, h1⟩, h2⟩
    have nt : ¬ Tru ls g := fun z => by
      rw [(ask_tell F L c.sub).mpr z] at h1
      cases h1
    refine ⟨can_srt.mp c, nt, fun m cm nm sm x hx => Classical.byContradiction fun z => ?_⟩
    have xts : x ∈ ts := sortD_mem.mp (cm.sub hx)
    unfold topD at h2
    have q := List.all_eq_true.mp h2 x (List.mem_filter.mpr ⟨xts, by
      cases e : hasD g x with
      | false => rfl
      | true => exact absurd ((F.has c.sub xts).mp e) z⟩)
    have sub : g ++ [x] ⊆ ts := fun y hy => by
      rcases List.mem_append.mp hy with v | v
      · exact c.sub v
      · simp only [List.mem_singleton] at v
        subst v
        exact xts
    exact nm (((ask_tell F L sub).mp q).mono fun y hy => by
      rcases List.mem_append.mp hy with v | v
      · exact sm v
      · simp only [List.mem_singleton] at v
        subst v
        exact hx)
  · intro h
    have c := can_srt.mpr h.can
    refine ⟨⟨c, ?_⟩, ?_⟩
    · cases e : askD ls g with
      | false => rfl
      | true => exact absurd ((ask_tell F L c.sub).mp e) h.no
    · unfold topD
      rw [List.all_eq_true]
      intro x hx
      obtain ⟨xts, hn⟩ := List.mem_filter.mp hx
      have xg : x ∉ g := fun z => by
        rw [(F.has c.sub xts).mpr z] at hn
        cases hn
      have sub : g ++ [x] ⊆ ts := fun y hy => by
        rcases List.mem_append.mp hy with v | v
        · exact c.sub v
        · simp only [List.mem_singleton] at v
          subst v
          exact xts
      refine (ask_tell F L sub).mpr (Classical.byContradiction fun z => xg ?_)
      have cs : Can (sortD ts) (sortD (g ++ [x])) := can_sort (List.nodup_append.mpr ⟨c.nd, by simp, fun a ha b hb e => by
        simp only [List.mem_singleton] at hb
        subst hb; subst e
        exact xg ha⟩) fun y hy => sortD_mem.mpr (sub hy)
      exact h.max _ cs (fun y => z (y.mono fun u hu => sortD_mem.mp hu)) (fun y hy => sortD_mem.mpr (List.mem_append_left _ hy)) (sortD_mem.mpr (by simp))
theorem minT_lst (T : Thgs ts) (L : LotsOk ts ls) (l : List PyData) : MinT (sortD ts) ls l ↔ l ∈ leastOfD ls := by
  obtain ⟨_, h2, h3⟩ := leastOf_is T.fam L.sub L.nd
  rw [h2]
  constructor
  · intro h
    obtain ⟨t, ht, hs⟩ := h.yes
    have ct : Can ts (sortD t) := h3 _ (List.mem_map.mpr ⟨t, ht, rfl⟩)
    have st : sortD t ⊆ l := fun x hx => hs (sortD_mem.mp hx)
    have e := ct.anti T.fam (can_srt.mpr h.can) st (h.min _ (can_srt.mp ct) ⟨t, ht, fun x hx => sortD_mem.mpr hx⟩ st)
    subst e
    refine ⟨List.mem_map.mpr ⟨t, ht, rfl⟩, fun m hm sm => ?_⟩
    obtain ⟨u, hu, rfl⟩ := List.mem_map.mp hm
    exact h.min _ (can_srt.mp (h3 _ hm)) ⟨u, hu, fun x hx => sortD_mem.mpr hx⟩ sm
  · rintro ⟨hl, hm⟩
    obtain ⟨t, ht, rfl⟩ := List.mem_map.mp hl
    refine ⟨can_srt.mp (h3 _ hl), ⟨t, ht, fun x hx => sortD_mem.mpr hx⟩, fun m cm tm sm x hx => ?_⟩
    obtain ⟨u, hu, hs⟩ := tm
    have := hm (sortD u) (List.mem_map.mpr ⟨u, hu, rfl⟩) (fun y hy => sm (hs (sortD_mem.mp hy)))
    exact hs (sortD_mem.mp (this hx))
theorem grOk_great (T : Thgs ts) (L : LotsOk ts ls) : GrOk (sortD ts) ls (greatD ts ls) := ⟨(great_is T L).1, fun g hg => ((great_is T L).2 g).mp hg⟩
/-- what charted comes to -/
structure CR (ts : List PyData) (ls : List (List PyData)) (qe ge : List (List PyData)) : Prop where
  chart : chartD (sortD ts) ge = .tuple [.list ((leastOfD ls).map .list), .list ((sortLD (greatD ts ls)).map .list)]
  can : ∀ q ∈ qe, Can ts q
  nd : qe.Nodup
  few : qe.length ≤ (leastOfD ls).length + (ts.length + 1) * (greatD ts ls).length
theorem cr_exR {fq : List PyData → Bool} (R : Rise (sortD ts) ls fq) (T : Thgs ts) (L : LotsOk ts ls) : ∃ qe ge n, Runs fq (sortD ts) [] [] qe ge n ∧ CR ts ls qe ge ∧ ∀ l ∈ meetD ((greatD ts ls).map (restD (sortD ts))), Tru ls l := by
  have hG0 : GrOk (sortD ts) ls [] := ⟨by simp, by simp⟩
  have a0 : AQ (sortD ts) ls [] (((sortD ts).length + 1) * ([] : List (List PyData)).length) := ⟨by simp, by simp, [], by simp, by simp, by simp⟩
  obtain ⟨qe, ge, n, r, hG, a, ht⟩ := runs_ex R 64 [] [] (by simp) hG0 a0
  obtain ⟨g1, g2⟩ := great_is T L
  have gm : ∀ g, g ∈ ge ↔ g ∈ greatD ts ls := fun g => (ge_all R hG ht g).trans (g2 g).symm
  obtain ⟨l1, _, l3⟩ := leastOf_is T.fam L.sub L.nd
  have lm : ∀ l, l ∈ meetD (ge.map (restD (sortD ts))) ↔ l ∈ leastOfD ls := fun l => (least_all R hG ht l).trans (minT_lst T L l)
  have ms := meetD_is R.fam (rests_sub (B := sortD ts) (gr := ge))
  have sub : ∀ {l : List PyData}, Can (sortD ts) l → l ⊆ ts := fun c => (can_srt.mpr c).sub
  have e1 : sortLD (meetD (ge.map (restD (sortD ts)))) = leastOfD ls := by
    rw [← show sortLD (leastOfD ls) = leastOfD ls from sortLD_idem _]
    exact sortLD_ext T.fam ms.1 l1 (fun l hl => sub (((ms.2 l).mp hl).can)) lm
  have e2 : sortLD ge = sortLD (greatD ts ls) := sortLD_ext T.fam hG.nd g1 (fun l hl => sub (hG.max l hl).can) gm
  have len : ge.length = (greatD ts ls).length := ((List.perm_ext_iff_of_nodup hG.nd g1).mpr gm).length_eq
  refine ⟨qe, ge, n, r, ⟨by unfold chartD; rw [e1, e2], fun q hq => can_srt.mpr (a.can q hq), a.nd, ?_⟩, fun l hl => ?_⟩
  · obtain ⟨M, m1, m2, m3⟩ := a.few
    have := m1.length_le_of_subset (l₂ := leastOfD ls) fun m hm => (minT_lst T L m).mp (m2 m hm).2
    rw [sortD_len, len] at m3
    omega
  · have ms2 := meetD_is R.fam (rests_sub (B := sortD ts) (gr := greatD ts ls))
    refine ht l ((ms.2 l).mpr ?_)
    have h := (ms2.2 l).mp hl
    have hi : ∀ m, Hits ((greatD ts ls).map (restD (sortD ts))) m ↔ Hits (ge.map (restD (sortD ts))) m := fun m => by
      constructor
      · intro h t ht'
        obtain ⟨g, hg, rfl⟩ := List.mem_map.mp ht'
        exact h _ (List.mem_map.mpr ⟨g, (gm g).mp hg, rfl⟩)
      · intro h t ht'
        obtain ⟨g, hg, rfl⟩ := List.mem_map.mp ht'
        exact h _ (List.mem_map.mpr ⟨g, (gm g).mpr hg, rfl⟩)
    exact ⟨h.can, (hi l).mp h.hits, fun m c q => h.min m c ((hi m).mpr q)⟩
theorem cr_ex (T : Thgs ts) (L : LotsOk ts ls) : ∃ qe ge n, Runs (askD ls) (sortD ts) [] [] qe ge n ∧ CR ts ls qe ge ∧ ∀ l ∈ meetD ((greatD ts ls).map (restD (sortD ts))), Tru ls l := cr_exR (rise_of T L) T L
/-! ### the rests -/
theorem rest_can (T : Thgs ts) (g : List PyData) : Can (sortD ts) (restD (sortD ts) g) := ⟨T.sort.fam.nd.sublist List.filter_sublist, (sortD_sorted ts).sublist List.filter_sublist, fun x hx => (List.mem_filter.mp hx).1⟩
theorem rest_rest (T : Thgs ts) {g : List PyData} (c : Can (sortD ts) g) : restD (sortD ts) (restD (sortD ts) g) = g := by
  have F := T.sort.fam
  refine (rest_can T _).ext F c fun x => ?_
  rw [rest_mem F (rest_can T g).sub, rest_mem F c.sub]
  constructor
  · rintro ⟨a, b⟩
    exact Classical.byContradiction fun z => b ⟨a, z⟩
  · intro h
    exact ⟨c.sub h, fun z => z.2 h⟩
theorem rests_can (T : Thgs ts) (L : LotsOk ts ls) : (restsD ts ls).Nodup ∧ ∀ l ∈ restsD ts ls, Can ts l := by
  obtain ⟨g1, g2⟩ := great_is T L
  refine ⟨?_, fun l hl => ?_⟩
  · unfold restsD
    refine List.pairwise_map.mpr ((g1.imp_of_mem fun {a b} ha hb hab e => ?_))
    rw [← rest_rest T ((g2 a).mp ha).can, ← rest_rest T ((g2 b).mp hb).can, e] at hab
    exact hab rfl
  · obtain ⟨g, _, rfl⟩ := List.mem_map.mp hl
    exact can_srt.mpr (rest_can T g)
theorem hits_least (T : Thgs ts) (L : LotsOk ts ls) {l : List PyData} (c : Can (sortD ts) l) : Hits (leastOfD ls) l ↔ ¬ Tru ls (restD (sortD ts) l) := by
  have F := T.sort.fam
  have hr := rest_mem F c.sub
  constructor
  · rintro h ⟨t, ht, hs⟩
    obtain ⟨_, h2, h3⟩ := leastOf_is T.fam L.sub L.nd
    obtain ⟨m, m1, m2⟩ := lst_ex (C := ls.map sortD) (fun l hl => (h3 l hl).nd) (List.mem_map.mpr ⟨t, ht, rfl⟩)
    obtain ⟨x, x1, x2⟩ := h m ((h2 m).mpr m1)
    exact ((hr x).mp (hs (sortD_mem.mp (m2 x2)))).2 x1
  · intro h m hm
    have mt := (minT_lst T L m).mpr hm
    exact Classical.byContradiction fun z => h (mt.yes.mono fun x hx => (hr x).mpr ⟨mt.can.sub hx, fun y => z ⟨x, y, hx⟩⟩)
theorem rests_meet (T : Thgs ts) (L : LotsOk ts ls) (l : List PyData) : MinHit (sortD ts) (leastOfD ls) l ↔ l ∈ restsD ts ls := by
  obtain ⟨g1, g2⟩ := great_is T L
  have F := T.sort.fam
  unfold restsD
  rw [List.mem_map]
  constructor
  · intro h
    refine ⟨restD (sortD ts) l, (g2 _).mpr ⟨rest_can T l, (hits_least T L h.can).mp h.hits, fun m cm nm sm x hx => ?_⟩, rest_rest T h.can⟩
    have cr := rest_can T m
    have hh : Hits (leastOfD ls) (restD (sortD ts) m) := (hits_least T L cr).mpr (by rw [rest_rest T cm]; exact nm)
    have sub : restD (sortD ts) m ⊆ l := fun y hy => by
      obtain ⟨y1, y2⟩ := (rest_mem F cm.sub y).mp hy
      exact Classical.byContradiction fun z => y2 (sm ((rest_mem F h.can.sub y).mpr ⟨y1, z⟩))
    have back := h.min _ cr hh sub
    exact (rest_mem F h.can.sub x).mpr ⟨cm.sub hx, fun z => ((rest_mem F cm.sub x).mp (back z)).2 hx⟩
  · rintro ⟨g, hg, rfl⟩
    have mf := (g2 g).mp hg
    have cr := rest_can T g
    refine ⟨cr, (hits_least T L cr).mpr (by rw [rest_rest T mf.can]; exact mf.no), fun m cm hm sm x hx => ?_⟩
    have nm := (hits_least T L cm).mp hm
    have sub : g ⊆ restD (sortD ts) m := fun y hy => (rest_mem F cm.sub y).mpr ⟨mf.can.sub hy, fun z => ((rest_mem F mf.can.sub y).mp (sm z)).2 hy⟩
    have back := mf.max _ (rest_can T m) nm sub
    obtain ⟨x1, x2⟩ := (rest_mem F mf.can.sub x).mp hx
    exact Classical.byContradiction fun z => x2 (back ((rest_mem F cm.sub x).mpr ⟨x1, z⟩))
theorem meet_least (T : Thgs ts) (L : LotsOk ts ls) : MeetIs (.list ts) (.list ((leastOfD ls).map .list)) (sortLD (restsD ts ls)) := by
  obtain ⟨l1, _, _⟩ := leastOf_is T.fam L.sub L.nd
  have lc := lst_can T L
  have L2 := lotsOk_can T l1 lc
  have q := meet_is T L2 (ksays_self T) (lsays_self T L2)
  rw [map_sort_id lc] at q
  obtain ⟨r1, r2⟩ := rests_can T L
  have ms := meetD_is T.fam (lots := leastOfD ls) fun l hl => (lc l hl).sub
  rw [sortLD_ext T.fam ms.1 r1 (fun l hl => ((ms.2 l).mp hl).can.sub) fun l => ((ms.2 l).trans minHit_srt).trans (rests_meet T L l)] at q
  exact q
theorem meet_rests (T : Thgs ts) (L : LotsOk ts ls) : MeetIs (.list ts) (.list ((restsD ts ls).map .list)) (leastOfD ls) := by
  obtain ⟨r1, r2⟩ := rests_can T L
  have L2 := lotsOk_can T r1 r2
  have q := meet_is T L2 (ksays_self T) (lsays_self T L2)
  rw [map_sort_id r2] at q
  obtain ⟨_, _, _, _, _, ht⟩ := cr_ex T L
  have R := rise_of T L
  have ms := meetD_is R.fam (rests_sub (B := sortD ts) (gr := greatD ts ls))
  have lm : ∀ l, l ∈ meetD ((greatD ts ls).map (restD (sortD ts))) ↔ l ∈ leastOfD ls := fun l => (least_all R (grOk_great T L) ht l).trans (minT_lst T L l)
  obtain ⟨l1, _, _⟩ := leastOf_is T.fam L.sub L.nd
  have e : sortLD (meetD (restsD ts ls)) = leastOfD ls := by
    rw [← show sortLD (leastOfD ls) = leastOfD ls from sortLD_idem _]
    exact sortLD_ext T.fam ms.1 l1 (fun l hl => (can_srt.mpr ((ms.2 l).mp hl).can).sub) lm
  rw [e] at q
  exact q
/-- each once -/
theorem once_len (T : Thgs ts) {qe : List (List PyData)} (nd : qe.Nodup) (h : ∀ q ∈ qe, Can ts q) : (onceLD qe).length = qe.length := by
  obtain ⟨a, b⟩ := onceL_is T.fam qe [] (fun l hl => (h l hl).sub) (by simp) (by simp)
  exact ((List.perm_ext_iff_of_nodup a nd).mpr fun l => (b l).trans (by simp)).length_eq
end
end K48
set_option Elab.async false
set_option linter.all false
set_option maxRecDepth 100000
set_option maxHeartbeats 4000000
/-! K48s: charted, asked with _law_ask -/
namespace K48
open PySem PySem.Spec PyProof.Rows L2 PD StX RZ NdefX LamX
/-- the data of H outside of S -/
def keepB (S : List Addr) (H : Hp) : Hp := fun a => if a ∈ S then none else noTb H a
section
variable {S S' : List Addr} {G H H' : Hp} {a : Addr} {o : HO} {v : V} {vs : List V} {d : PyData} {ds : List PyData}
theorem keepB_in (h : a ∈ S) : keepB S H a = none := if_pos h
theorem keepB_off (h : a ∉ S) : keepB S H a = noTb H a := if_neg h
theorem keepB_some (h : keepB S H a = some o) : a ∉ S ∧ noTb H a = some o := by
  by_cases z : a ∈ S
  · rw [keepB_in z] at h; cases h
  · rw [keepB_off z] at h; exact ⟨z, h⟩
theorem keepB_same : Same (keepB S H) H := fun a o e => (noTb_some (keepB_some e).2).1
theorem noTb_of (h : noTb H a = some o) (e : H' a = some o) : noTb H' a = some o := by
  unfold noTb at h ⊢
  split at h <;> first | (cases h; rw [e]) | cases h
theorem keepB_ups (d : DqAll G vs ds) (h : ∀ a o, noTb G a = some o → a ∉ S ∧ H a = some o) : DqAll (keepB S H) vs ds := d.noTb.up fun a o e => by rw [keepB_off (h a o e).1]; exact noTb_of e (h a o e).2
theorem keepB_up (k : Dq G v d) (h : ∀ a o, noTb G a = some o → a ∉ S ∧ H a = some o) : Dq (keepB S H) v d := k.noTb.up fun a o e => by rw [keepB_off (h a o e).1]; exact noTb_of e (h a o e).2
theorem noTb_keepB (h : noTb (keepB S H) a = some o) : a ∉ S ∧ noTb H a = some o := keepB_some (noTb_some h).1
theorem noTb_ne (h : noTb H a = some o) (φ : Heap → Prop) : o ≠ .ext φ := fun z => by
  unfold noTb at h
  split at h <;> first | (cases h; cases z) | cases h
theorem off_cells {cs : List Addr} (c : Celled cs H) (h : noTb H a = some o) : a ∉ cs := c.off (noTb_some h).1 fun φ => noTb_ne h φ
end
section
variable {P : Program} {w : World} {K : PySem.W.Frag} {mg : Str → Option Value} {base : Heap} {F : NF} {f aA aW C CK : Addr} {S0 : List Addr} {vl vt t : V} {ts : List PyData} {ls q0 : List (List PyData)} {HT H1 G1 G : Hp}
/-- what stands while the law's function is asked -/
structure AskS (S0 : List Addr) (F : NF) (f aA aW : Addr) (vl vt : V) (ts : List PyData) (ls : List (List PyData)) (HT : Hp) : Prop where
  inA : aA ∈ S0
  inW : aW ∈ S0
  old : ∀ a ∈ S0, HT a ≠ none
  fn : HT f = some (FnO f F)
  code : HT F.c = some (CodeO F.c F.qual)
  cap : Cap F.cl frAsk [some (.ref aA), some vl, some vt, some (.ref aW)] HT
  fcl : f ∉ adr F.cl
  ccl : F.c ∉ adr F.cl
  ne : aA ≠ aW
  asked : ∃ rs, HT aA = some (.lst rs)
  wrong : HT aW = some (.lst [])
  lots : Dq (keepB S0 HT) vl (.list (ls.map .list))
  things : Dq (keepB S0 HT) vt (.list ts)
def AskJ (S0 : List Addr) (q0 : List (List PyData)) (HT : Hp) (aA : Addr) : Addr → List (List PyData) → Hp → Prop := fun g qs H => (∀ a, HT a ≠ none → a ≠ aA → H a = HT a) ∧ ∃ rs, H aA = some (.lst rs) ∧ DqAll (keepB (g :: S0) H) rs ((q0 ++ qs).map .list)
theorem ask_r (T : Thgs ts) (L : LotsOk ts ls) {l : List PyData} (h1 : l.length ≤ 20) (h2 : ∀ x ∈ l, x ∈ sortD ts) (h3 : l = sortD l) : AskR ts ls l := by
  have s : l ⊆ ts := fun x hx => sortD_mem.mp (h2 x hx)
  have t6 := T.fam.few
  have l64 := L.few
  refine ⟨T.fam.kin, by omega, T.fam.kin.sub s, by omega, by rw [← h3]; exact (T.fam.eqvL s s).mpr rfl, (T.sort.fam.within h2 fun _ => id).mpr h2, ⟨T.fam.kin, fun o ho x hx => L.sub o ho hx⟩, by omega, fun o ho => ?_⟩
  have := (L.nd o ho).length_le_of_subset (L.sub o ho)
  omega
theorem ask_akf (S : AskS S0 F f aA aW vl vt ts ls HT) (N : NOk P w K mg base (L2.CX P w) 2 f F ["_law_some"] frAsk spAsk) (T : Thgs ts) (L : LotsOk ts ls) (hq0 : q0.length ≤ 1000) (up : Same HT H1) :
    AkF P w K mg base ⟨C, 0, 0, 0, 0, f, t, sortD ts, askD ls, H1, G1, fun a => a ∈ S0, AskJ S0 q0 HT aA⟩ 2 := by
  obtain ⟨rs0, hA0⟩ := S.asked
  have nz : ∀ a, HT a ≠ none → H1 a ≠ none := fun a h => by
    cases q : HT a with
    | none => exact absurd q h
    | some o => rw [up _ _ q]; simp
  have fA : f ≠ aA := ne_of S.fn hA0 (by intro z; unfold FnO at z; cases z)
  have cA : F.c ≠ aA := ne_of S.code hA0 (by intro z; unfold CodeO at z; cases z)
  have hsz : sizeLine = 16777216 := sizeLine_eq
  refine ⟨fun g qs H J => ?_, ⟨_, nok_cal N, fun g qs l p xs G H Q J hq hp hg gg gZ hd hs fine k => ?_⟩, fun g qs H H' J h1 h2 => ?_, fun a ha => ?_⟩
  · refine isFn_def (f := f) (F := F) ?_
    rw [J.1 f (by rw [S.fn]; simp) fA]
    exact S.fn
  · obtain ⟨j1, rs, j2, j3⟩ := J
    have j1' : ∀ a o, HT a = some o → a ≠ aA → H a = some o := fun a o e n => (j1 a (by rw [e]; simp) n).trans e
    obtain ⟨_, f2, f3, f4⟩ := fine
    have R := ask_r T L f2 f3 f4
    have celA : aA ∉ adr F.cl := S.cap.celled.off hA0 fun _ z => nomatch z
    have celW : aW ∉ adr F.cl := S.cap.celled.off S.wrong fun _ z => nomatch z
    have hW : H aW = some (.lst []) := j1' _ _ S.wrong S.ne.symm
    have capH : Cap F.cl frAsk [some (.ref aA), some vl, some vt, some (.ref aW)] (upd H p (.lst xs)) := S.cap.up fun c hc => by
      obtain ⟨o, e⟩ := S.cap.celled c hc
      have e2 := j1' _ _ e (ne_of e hA0 (by intro z; unfold CelO at z; cases z))
      rw [upd_ne (ne_of_none e2 hp), e2, e]
    have pc : p ∉ adr F.cl := fun z => by
      obtain ⟨o, e⟩ := capH.celled p z
      rw [upd_same] at e
      unfold CelO at e
      cases e
    have pA : p ≠ aA := fun z => by rw [← z, hp] at j2; cases j2
    have pW : p ≠ aW := fun z => by rw [← z, hp] at hW; cases hW
    have gA : G aA = none := gZ _ S.inA
    have gW : G aW = none := gZ _ S.inW
    have rml : ∀ a o, H a = some o → a ∉ adr F.cl → rm (adr F.cl) (upd H p (.lst xs)) a = some o := fun a o e n => by
      rw [rm_off n, upd_ne (ne_of_none e hp)]; exact e
    have celH : Celled (adr F.cl) H := fun c hc => by
      obtain ⟨o, e⟩ := S.cap.celled c hc
      exact ⟨o, j1' _ _ e (ne_of e hA0 (by intro z; unfold CelO at z; cases z))⟩
    have frH : H f = some (FnO f F) := j1' _ _ S.fn fA
    have fcH : H F.c = some (CodeO F.c F.qual) := j1' _ _ S.code cA
    have sta : ∀ a o, noTb (keepB S0 HT) a = some o → a ∉ [p, aA, aW] ∧ rm (adr F.cl) (upd H p (.lst xs)) a = some o := fun a o e => by
      obtain ⟨n, e⟩ := noTb_keepB e
      have nA : a ≠ aA := fun z => n (z ▸ S.inA)
      have e1 := j1' _ _ (noTb_some e).1 nA
      exact ⟨by simp only [List.mem_cons, List.not_mem_nil, or_false, not_or]; exact ⟨ne_of_none e1 hp, nA, fun z => n (z ▸ S.inW)⟩, rml _ _ e1 (off_cells S.cap.celled e)⟩
    refine ⟨[some (.ref aA), some vl, some vt, some (.ref aW)], by rw [upd_ne (ne_of_none frH hp)]; exact frH, by rw [upd_ne (ne_of_none fcH hp)]; exact fcH, capH, S.fcl, S.ccl, ?_⟩
    refine ⟨aA, aW, p, vl, vt, rs, xs, l, ts, ls, keepB [p, aA, aW] (rm (adr F.cl) (upd H p (.lst xs))), rfl, rfl, by rw [rm_off pc]; exact upd_same, rml _ _ j2 celA, rml _ _ hW celW, pA, pW, S.ne, keepB_same, keepB_in (by simp), keepB_in (by simp), keepB_in (by simp), ?_, keepB_up S.lots sta, keepB_up S.things sta, R, ?_, fun c H' hc h1 h2 h3 h4 n3 => ?_⟩
    · refine keepB_ups hd fun a o e => ?_
      have e0 := (noTb_some e).1
      have e1 := hs _ _ e0
      refine ⟨?_, rml _ _ e1 (off_cells celH (noTb_of e e1))⟩
      simp only [List.mem_cons, List.not_mem_nil, or_false, not_or]
      exact ⟨ne_of_none e1 hp, (fun z => by rw [z, gA] at e0; cases e0), (fun z => by rw [z, gW] at e0; cases e0)⟩
    · have := j3.len
      rw [List.length_map, List.length_append] at this
      omega
    · have cc : c ∉ adr F.cl := fun z => by rw [n3 c z] at h2; cases h2
      have cH : H c = none := by
        rw [rm_off cc] at hc
        exact NdefX.upd_none hc
      have cp : c ≠ p := fun z => by rw [rm_off cc, z, upd_same] at hc; cases hc
      have kee : ∀ a o, H a = some o → a ≠ aA → ovr (adr F.cl) (upd H p (.lst xs)) H' a = some o := fun a o e n => by
        by_cases z : a ∈ adr F.cl
        · rw [ovr_in z, upd_ne (ne_of_none e hp)]; exact e
        · rw [ovr_off z]; exact h3 a o (rml _ _ e z) (ne_of_none e hp) n
      have eA : ovr (adr F.cl) (upd H p (.lst xs)) H' aA = some (.lst (rs ++ [.ref c])) := by rw [ovr_off celA]; exact h1
      have ec : ovr (adr F.cl) (upd H p (.lst xs)) H' c = some (.lst xs) := by rw [ovr_off cc]; exact h2
      obtain ⟨vg, hg⟩ := hg
      have oldH : ∀ a ∈ S0, H a ≠ none := fun a ha => by
        by_cases z : a = aA
        · rw [z, j2]; simp
        · rw [j1 a (S.old a ha) z]; exact S.old a ha
      refine k _ ⟨fun a n1 n2 => ?_, rs ++ [.ref c], eA, ?_⟩ (fun a o e n => kee a o e fun z => n (z ▸ S.inA)) fun a e => ?_
      · cases q : HT a with
        | none => exact absurd q n1
        | some o => exact kee a o (j1' _ _ q n2) n2
      · rw [← List.append_assoc, List.map_append]
        refine DqAll.snoc (keepB_ups j3 fun a o e => ?_) (.lst (xs := xs) ?_ (keepB_ups hd fun a o e => ?_))
        · obtain ⟨n, e⟩ := noTb_keepB e
          exact ⟨n, kee _ _ (noTb_some e).1 fun z => n (z ▸ List.mem_cons_of_mem _ S.inA)⟩
        · rw [keepB_off]
          · exact noTb_lst ec
          · intro z
            rcases List.mem_cons.mp z with z | z
            · rw [z, hg] at cH; cases cH
            · exact oldH c z cH
        · have e0 := (noTb_some e).1
          have nA : a ≠ aA := fun z => by rw [z, gA] at e0; cases e0
          refine ⟨fun z => ?_, kee _ _ (hs _ _ e0) nA⟩
          rcases List.mem_cons.mp z with z | z
          · rw [z, gg] at e0; cases e0
          · rw [gZ a z] at e0; cases e0
      · by_cases z : a ∈ adr F.cl
        · obtain ⟨o, q⟩ := capH.celled a z
          rw [ovr_in z, q] at e; cases e
        · rw [ovr_off z] at e
          have q := h4 a e
          rw [rm_off z] at q
          exact NdefX.upd_none q
  · obtain ⟨j1, rs, j2, j3⟩ := J
    refine ⟨fun a n1 n2 => (h2 a (nz a n1)).trans (j1 a n1 n2), rs, (h2 aA (nz _ (by rw [hA0]; simp))).trans j2, keepB_ups j3 fun a o e => ?_⟩
    obtain ⟨n, e⟩ := noTb_keepB e
    refine ⟨n, h1 a o e fun z => n (by rw [z]; simp)⟩
  · exact nz _ (S.old a ha)
/-- charted, asked with the law's function -/
theorem ask_charted {vk : V} {dk : PyData} {rs0 : List V} {Q : VK} {E : XK} (S : AskS S0 F f aA aW vl vt ts ls HT) (N : NOk P w K mg base (L2.CX P w) 2 f F ["_law_some"] frAsk spAsk) (T : Thgs ts) (L : LotsOk ts ls) (hq0 : q0.length ≤ 1000) (A : AskC P w K mg base C)
    (hG : Same G HT) (gS : ∀ a ∈ S0, G a = none) (dvk : Dq G vk dk) (kk : KSays ts dk) (hr : HT aA = some (.lst rs0)) (hr0 : DqAll (keepB S0 HT) rs0 (q0.map .list))
    (k : ∀ (qe ge : List (List PyData)) (g : Addr) (v : V) (G' H' : Hp) (rs : List V), CR ts ls qe ge → (∀ a, HT a ≠ none → a ≠ aA → H' a = HT a) → H' aA = some (.lst rs) → DqAll (keepB (g :: S0) H') rs ((q0 ++ qe).map .list) → ExtZ (fun a => a ∈ S0) G HT G' H' →
      Dq G' v (.tuple [.list ((leastOfD ls).map .list), .list ((sortLD (greatD ts ls)).map .list)]) → Q v H') : spCharted P w K mg base CK C 2 [.ref f, vk] HT Q E := by
  obtain ⟨qe, ge, n, hR, cr, _⟩ := cr_ex T L
  have el : lotD dk = sortD ts := by unfold lotD; rw [kk.keys]
  refine ⟨G, f, vk, dk, rfl, hG, dvk, kk.small T, A, (fun z => by rw [kk.good T] at z; cases z), fun _ => ?_⟩
  rw [el]
  refine ⟨by rw [kk.keys]; exact T.fam.kin, T.sort.fine, T.sort.nol, askD ls, fun a => a ∈ S0, AskJ S0 q0 HT aA, qe, ge, n, fun a ha => ?_, hR, fun g hg => ?_, fun g qs Ha Hb J h1 h2 => ?_, fun t Ga Ha e => ask_akf S N T L hq0 e.hh, fun g v G' H' J z dv => ?_⟩
  · exact ⟨gS a ha, S.old a ha⟩
  · refine ⟨fun a _ _ => rfl, rs0, hr, ?_⟩
    rw [List.append_nil]
    refine keepB_ups hr0 fun a o e => ?_
    obtain ⟨n, e⟩ := noTb_keepB e
    refine ⟨?_, (noTb_some e).1⟩
    rw [List.mem_cons]
    exact fun z => z.elim (fun y => by rw [y] at e; have := (noTb_some e).1; rw [hg] at this; cases this) n
  · obtain ⟨j1, rs, j2, j3⟩ := J
    refine ⟨fun a n1 n2 => (h2 a n1).trans (j1 a n1 n2), rs, (h2 aA (by rw [hr]; simp)).trans j2, keepB_ups j3 fun a o e => ?_⟩
    obtain ⟨n, e⟩ := noTb_keepB e
    exact ⟨n, h1 a o e fun z => n (by rw [z]; simp)⟩
  · obtain ⟨j1, rs, j2, j3⟩ := J
    rw [cr.chart] at dv
    exact k qe ge g v G' H' rs cr j1 j2 j3 z dv
end
end K48
set_option Elab.async false
set_option linter.all false
set_option maxRecDepth 100000
set_option maxHeartbeats 4000000
/-! PdNd: a nested def's making in the law's world: what stays -/
namespace PD
open PySem PySem.Spec PyProof.Rows L2 NdefX LamX
/-- behind the making of F at f: the table at P has changed at most -/
structure NdMade (H : Hp) (P : Addr) (nm : Nat → Nat → Str) (F : NF) (f : Addr) (H1 : Hp) : Prop where
  was : ∃ ps, H P = some (.tbl ps)
  stay : ∀ b o, b ≠ P → H b = some o → H1 b = some o
  dom : ∀ b, H1 b = none → H b = none
  tab : TabN H1 P nm
  f0 : H f = none
  f1 : H1 f = some (FnO f F)
  c1 : H1 F.c = some (CodeO F.c F.qual)
section
variable {X : Cx} {pins : List (Addr × Obj)} {σ : L2.St} {H : Hp} {s : Shared}
theorem nd_make {nm : Nat → Nat → Str} {c P : Addr} {st : Stmt} {name : Str} {pos : Pos} {EE : Value → Shared → Prop} {Q : Value → Shared → Prop} (I : Inv X pins σ H s) (TB : TabB X.base X.mg c P) (hcode : X.env.code = .ref c) (hn : nm pos.line pos.col = X.env.qual ++ name) (hT : TabN H P nm)
    (hfree : ∀ y ∈ (C8.fnScope st).names, y.2 = .free → ∃ c, X.env.cells.lookup y.1 = some c)
    (h : ∀ (f c' : Addr) (H1 : Hp) (s' : Shared), Inv X pins σ H1 s' → NdMade H P nm (NF.of st name (X.env.qual ++ name) (cloFrom X.env.cells (C8.fnScope st).names []) c') f H1 → Q (.ref f) s') :
    wpAny (model X.prog X.w) X.A (makeFunction name (X.env.qual ++ name) (C8.fnArgs st) (.stmts (C8.fnBody st)) (C8.fnScope st) X.env [] [] [] pos pos.line) Q EE s := by
  obtain ⟨ps, hP, ht, ha⟩ := hT
  have bP := TB.bm.keeps I.bk
  have hP' := I.hok P _ hP
  cases hc : codeAmong pos ps.toList with
  | some cv =>
    obtain ⟨c', e, hco⟩ := ha pos cv hc
    subst e
    rw [hn] at hco
    refine PySem.W.makeFunction_hit (mg := X.mg) (c := c) (P := P) (ps := ps) (closure_ok hfree) I.ok.glob (I.mod.glob.keeps I.bk) hcode (TB.code.keeps I.bk) hP' ht hc bP fun ctv doc h' tk hx hsz => ?_
    have I1 : Inv X pins σ H { s with heap := h', toks := tk } := I.kept hx
    have nF : H h'.objs.size = none := I1.hok.fresh (Nat.le_refl _)
    have I2 := inv_fn (F := NF.of st name (X.env.qual ++ name) (cloFrom X.env.cells (C8.fnScope st).names []) c') (t' := tk) (doc := doc) (pm := (X.mg "__name__").getD .none) (ctv := ctv) I1 rfl
    have up : ∀ b o, H b = some o → upd H h'.objs.size (FnO h'.objs.size (NF.of st name (X.env.qual ++ name) (cloFrom X.env.cells (C8.fnScope st).names []) c')) b = some o := fun b o e => (upd_ne (ne_of_none e nF)).trans e
    exact h h'.objs.size c' _ _ I2 ⟨⟨ps, hP⟩, fun b o _ e => up b o e, fun b e => NdefX.upd_none e, (show TabN H P nm from ⟨ps, hP, ht, ha⟩).ext up, nF, upd_same, up _ _ hco⟩
  | none =>
    refine PySem.W.makeFunction_K (mg := X.mg) (c := c) (P := P) (ps := ps) (closure_ok hfree) I.ok.glob (I.mod.glob.keeps I.bk) hcode (TB.code.keeps I.bk) hP' ht hc TB.gP bP fun c' ctv doc h' tk hx hge hlt hrec htb => ?_
    obtain ⟨c2, oc, vs, t, e2, hoc, hd, hv⟩ := hrec
    cases e2
    have nC : H c' = none := I.hok.fresh hge
    have I1 := inv_table (t' := tk) (more := #[rawInt pos.line, rawInt pos.col, .ref c']) (h' := h') I hP (fun b o hb e => hx b o hb e) htb hge ⟨oc, vs, t, hoc, hd, hv⟩
    generalize hH : upd (upd H P (.tbl (ps ++ #[rawInt pos.line, rawInt pos.col, .ref c']))) c' (CodeO c' (X.env.qual ++ name)) = Hm at I1
    have stay : ∀ b o, b ≠ P → H b = some o → Hm b = some o := fun b o n e => by rw [← hH, upd_ne (ne_of_none e nC), upd_ne n]; exact e
    have cm : Hm c' = some (CodeO c' (X.env.qual ++ name)) := by rw [← hH]; exact upd_same
    have Pm : Hm P = some (.tbl (ps ++ #[rawInt pos.line, rawInt pos.col, .ref c'])) := by rw [← hH, upd_ne (ne_of_none hP nC)]; exact upd_same
    have dm : ∀ b, Hm b = none → H b = none := fun b e => by rw [← hH] at e; exact NdefX.upd_none (NdefX.upd_none e)
    have Tm : TabN Hm P nm := by
      refine ⟨_, Pm, by rw [show (ps ++ #[rawInt pos.line, rawInt pos.col, .ref c']).toList = ps.toList ++ [rawInt pos.line, rawInt pos.col, .ref c'] from by simp]; exact PySem.TriplesOk_snoc _ _ _ _ ht, fun p' cv hcv => ?_⟩
      rw [show (ps ++ #[rawInt pos.line, rawInt pos.col, .ref c']).toList = ps.toList ++ [rawInt pos.line, rawInt pos.col, .ref c'] from by simp] at hcv
      rcases among_app2 _ ht hcv with z | ⟨z, z1, z2⟩
      · obtain ⟨c0, e1, e2⟩ := ha p' cv z
        exact ⟨c0, e1, stay _ _ (fun y => codeO_ne ps (Option.some.inj ((y ▸ e2).symm.trans hP))) e2⟩
      · exact ⟨c', z, by rw [← z1, ← z2, hn]; exact cm⟩
    have nF := I1.hok.fresh (Nat.le_refl _)
    have I2 := inv_fn (F := NF.of st name (X.env.qual ++ name) (cloFrom X.env.cells (C8.fnScope st).names []) c') (t' := tk) (doc := doc) (pm := (X.mg "__name__").getD .none) (ctv := ctv) I1 rfl
    have up : ∀ b o, Hm b = some o → upd Hm h'.objs.size (FnO h'.objs.size (NF.of st name (X.env.qual ++ name) (cloFrom X.env.cells (C8.fnScope st).names []) c')) b = some o := fun b o e => (upd_ne (ne_of_none e nF)).trans e
    exact h h'.objs.size c' _ _ I2 ⟨⟨ps, hP⟩, fun b o n e => up b o (stay b o n e), fun b e => dm b (NdefX.upd_none e), Tm.ext up, dm _ nF, upd_same, up _ _ cm⟩
end
/-- def name(..): .. in a def's body: the slot i holds the new function -/
def tNdefZ (P : Addr) (nm : Nat → Nat → Str) (i : Nat) (mk : Addr → NF) : TS := fun D σ H => TabN H P nm ∧ ∀ (f c' : Addr) (H1 : Hp), NdMade H P nm (mk c') f H1 → D.nx (σ.set i (some (.ref f))) H1
section
variable {X : Cx}
theorem ps_ndefZ {st : Stmt} {nm : Nat → Nat → Str} {c P : Addr} {name : Str} {pos : Pos} {i : Nat} (hst : st = .FunctionDef name (C8.fnArgs st) (C8.fnBody st) [] none [] (C8.fnScope st) none name pos) (TB : TabB X.base X.mg c P) (hcode : X.env.code = .ref c) (hn : nm pos.line pos.col = X.env.qual ++ name)
    (hfree : ∀ y ∈ (C8.fnScope st).names, y.2 = .free → X.env.scope.names.lookup y.1 = some .cell ∨ X.env.scope.names.lookup y.1 = some .free) (hd0 : (C8.fnArgs st).defaults = []) (hk0 : (C8.fnArgs st).kw_defaults = []) (ha : annTrees (C8.fnArgs st) none X.env = [])
    (hN : X.N.Nodup) (hi : X.N[i]? = some name) (hx : Loc X.env.scope name) (hf : X.fn name = true ∨ X.env.scope.names.lookup name = some .local) :
    PS X st (tNdefZ P nm i (NF.of st name (X.env.qual ++ name) (cloFrom X.env.cells (C8.fnScope st).names []))) := by
  suffices q : PS X (.FunctionDef name (C8.fnArgs st) (C8.fnBody st) [] none [] (C8.fnScope st) none name pos) (tNdefZ P nm i (NF.of st name (X.env.qual ++ name) (cloFrom X.env.cells (C8.fnScope st).names []))) by
    rw [← hst] at q; exact q
  refine ⟨fun pins s σ H D I ⟨hT, h⟩ => ?_⟩
  have hq : qualnameIn X.env name name = X.env.qual ++ name := by
    unfold qualnameIn
    rcases (show X.env.kindOf name = some .local ∨ X.env.kindOf name = some .cell from hx) with k | k <;> rw [k] <;> first | rfl | exact if_neg (by decide)
  refine PySem.W.nestDef_K hd0 hk0 ha ?_
  rw [hq]
  refine nd_make I TB hcode hn hT (fun y hy e => (hfree y hy e).elim (fun z => I.ok.has _ (.inl z)) fun z => I.ok.has _ (.inr z)) fun f c' H1 s' I1 M => ?_
  exact store_ok I1 hN hi hx (v := .ref f) rfl (fun s2 J => ⟨_, H1, J, h f c' H1 M⟩) hf
end
/-- the maker's table is one of the world's -/
structure MkN (t : Tb) (base : Heap) (mg : Str → Option Value) (c T : Addr) (nm : Nat → Nat → Str) : Prop where
  tb : TabB base mg c T
  mem : (T, nm) ∈ t.TN
  one : ∀ p ∈ t.TN, p.1 = T → p.2 = nm
  off : ∀ p ∈ t.T, p.1 ≠ T
section
variable {W : Wl} {T c f : Addr} {nm : Nat → Nat → Str} {F : NF} {H H1 G : Hp} {n : Nat} {base : Heap} {mg : Str → Option Value}
theorem MkN.made (m : MkN W.t base mg c T nm) (M : NdMade H T nm F f H1) (w : WOk W n H) : WOk W n H1 := by
  obtain ⟨p0, e0⟩ := M.was
  have nt : ∀ a o, H a = some o → (∀ ps, o ≠ .tbl ps) → H1 a = some o := fun a o e z => M.stay a o (fun y => z p0 (Option.some.inj (((y ▸ e : H T = some o)).symm.trans e0))) e
  have hZ : T ∈ W.t.Z := List.mem_append_right _ (List.mem_map.mpr ⟨_, m.mem, rfl⟩)
  obtain ⟨ne, ⟨cells, pend, acc, cnt, k1, k2, r⟩, tb, tn⟩ := w
  refine ⟨ne, ⟨cells, pend, acc, cnt, nt _ _ k1 (fun _ z => nomatch z), nt _ _ k2 (fun _ z => nomatch z), r⟩, fun p hp => ?_, fun p hp => ?_⟩
  · obtain ⟨⟨ps, x⟩, y⟩ := tb p hp
    exact ⟨⟨ps, M.stay _ _ (m.off p hp) x⟩, TabX.but hZ M.stay ⟨p0, e0⟩ _ _ (m.off p hp) y⟩
  · by_cases e : p.1 = T
    · rw [m.one p hp e, e]
      exact M.tab
    · obtain ⟨ps, h1, h2, h3⟩ := tn p hp
      refine ⟨ps, M.stay _ _ e h1, h2, fun pos cv hc => ?_⟩
      obtain ⟨c2, e1, e2⟩ := h3 pos cv hc
      exact ⟨c2, e1, nt _ _ e2 codeO_ne⟩
theorem MkN.ext (m : MkN W.t base mg c T nm) (M : NdMade H T nm F f H1) (hs : Same G H) (cl : Cl W G) : ExtW W G H G H1 := by
  obtain ⟨p0, e0⟩ := M.was
  have nt : ∀ a o, H a = some o → (∀ ps, o ≠ .tbl ps) → H1 a = some o := fun a o e z => M.stay a o (fun y => z p0 (Option.some.inj (((y ▸ e : H T = some o)).symm.trans e0))) e
  exact ⟨fun a o e k => nt a o e k.2.2, M.dom, Same.refl _, fun a o e => nt a o (hs _ _ e) (cl a o e).2.2, fun _ h => .inl h, cl⟩
end
end PD
set_option Elab.async false
set_option linter.all false
set_option maxRecDepth 100000
set_option maxHeartbeats 4000000
/-! K48t0: _law_charted_right: places, its state -/
namespace K48
open PySem PySem.Spec PyProof.Rows L2 PD StX RZ NdefX LamX
section
variable {P : Program} {w : World} {K : PySem.W.Frag} {mg : Str → Option Value} {base : Heap} {G H G' H' : Hp}
abbrev nCRight : List Str := ["_law_stream_here", "_law_things_here", "_law_lots_here", "_law_asked", "_law_wrong", "_law_ask", "_law_every", "_law_least", "_law_greatest", "_law_some", "_law_told", "_law_rests", "_law_lot", "_law_one"]
theorem scCRight : FnScope nCRight ["_law_stream_here", "_law_things_here", "_law_lots_here"] (defScope sCRight) := ⟨rfl, rfl, rfl, by decide +kernel, rfl, by decide +kernel, by decide +kernel⟩
abbrev qAsk : Str := "_law_charted_right" ++ ".<locals>." ++ "_law_ask"
abbrev nmAsk : Nat → Nat → Str := fun _ _ => qAsk
abbrev iterC (st : Stmt) : Expr := match st with | .For _ i _ _ _ => i | _ => noExpr
example : ∃ x, stAt (defBody sCRight) 0 = x := ⟨_, rfl⟩
abbrev crC1 : Scope := compSc (valOf (stAt (defBody sCRight) 4))
abbrev crC2 : Scope := compSc (subE 1 (valOf (stAt (bodyOf (stAt (defBody sCRight) 4)) 0)))
abbrev crC3 : Scope := compSc (valOf (stAt (defBody sCRight) 9))
theorem spc_len {CK C : Addr} {ka : Nat} : ∀ vs H Q E, spCharted P w K mg base CK C ka vs H Q E → vs.length = 2 := by
  rintro vs H Q E ⟨G, f, vk, dk, rfl, _⟩; rfl
theorem own_ask {X : Cx} (hN : X.N = nCRight := by rfl) (hS : X.env.scope = defScope sCRight := by rfl) (hfn : ∀ y, X.fn y = true := by intro _; rfl) : Own X (cloFrom X.env.cells (C8.fnScope sAsk).names []) frAsk [3, 2, 1, 4] :=
  own_made (by rw [hS]; exact ndef_free (sc := defScope sCRight) (nsc := C8.fnScope sAsk) (fr := frAsk) (by decide +kernel)) (by decide +kernel) (by rw [hN]; rfl) hfn
/-! ### charted, called with the running frame's function -/
variable {W : Wl} {n n0 : Nat} {G0 H0 G1 H1 : Hp}
theorem WOk_but {Z : Addr → Prop} (w : WOk W n H) (e : ∀ a o, H a = some o → ¬ Z a → H' a = some o) (z : ∀ a, Z a → ∃ xs, H a = some (.lst xs)) (s1 : ¬ Z W.st) (s2 : ¬ Z W.ce) : WOk W n H' := by
  have nl : ∀ b u, H b = some u → (∀ zs, u ≠ .lst zs) → H' b = some u := fun b u q y => e b u q fun q2 => by
    obtain ⟨xs, q3⟩ := z b q2
    rw [q] at q3
    exact y _ (Option.some.inj q3)
  obtain ⟨ne, ⟨cells, pend, acc, cnt, k1, k2, r⟩, tb, tn⟩ := w
  exact ⟨ne, ⟨cells, pend, acc, cnt, e _ _ k1 s1, e _ _ k2 s2, r⟩, fun p hp => let ⟨⟨ps, x⟩, y⟩ := tb p hp; ⟨⟨ps, nl _ _ x fun _ z => nomatch z⟩, TabX.up2 (fun a ps h => nl _ _ h fun _ z => nomatch z) (fun a φ h => nl _ _ h fun _ z => nomatch z) _ _ y⟩,
    tabsN_up2 (fun a ps h => nl _ _ h fun _ z => nomatch z) (fun a φ h => nl _ _ h fun _ z => nomatch z) tn⟩
/-- the state while the function is asked -/
structure AskG (W : Wl) (n : Nat) (G0 H0 : Hp) (F : NF) (f aA aW : Addr) (G H : Hp) (qs : List (List PyData)) (rs : List V) : Prop where
  g : GrW W G0 H0 [aW, aA] G H
  w : WOk W n H
  fn : H f = some (FnO f F)
  code : H F.c = some (CodeO F.c F.qual)
  asked : H aA = some (.lst rs)
  wrong : H aW = some (.lst [])
  qs : DqAll (keepB [aA, aW, W.st, W.ce] H) rs (qs.map .list)
theorem AskG.ext {F : NF} {f aA aW : Addr} {qs : List (List PyData)} {rs : List V} {m : Nat} (a : AskG W n G0 H0 F f aA aW G H qs rs) (w0 : WOk W n0 H0) (x : ExtW W G H G' H') (w1 : WOk W m H') : AskG W m G0 H0 F f aA aW G' H' qs rs := by
  obtain ⟨st, ce⟩ := a.w.here
  obtain ⟨cells, pend, acc, cnt, k1, k2, _⟩ := a.w.str
  have kf : ∀ b o, H b = some o → (∀ xs, o ≠ .lst xs) → (∀ ps, o ≠ .tbl ps) → H' b = some o := fun b o e n1 n2 => x.hh b o e ⟨fun z => by rw [z, k1] at e; exact n1 _ (Option.some.inj e).symm, fun z => by rw [z, k2] at e; exact n1 _ (Option.some.inj e).symm, n2⟩
  have o1 := a.g.off w0 (p := aA) (by simp)
  have o2 := a.g.off w0 (p := aW) (by simp)
  refine ⟨a.g.ext w0 x, w1, kf _ _ a.fn (by intro xs z; unfold FnO at z; cases z) (by intro xs z; unfold FnO at z; cases z), kf _ _ a.code (by intro xs z; unfold CodeO at z; cases z) (by intro xs z; unfold CodeO at z; cases z), x.hh _ _ a.asked ⟨o1.1, o1.2, fun _ z => nomatch z⟩, x.hh _ _ a.wrong ⟨o2.1, o2.2, fun _ z => nomatch z⟩, ?_⟩
  refine keepB_ups a.qs fun b o e => ?_
  obtain ⟨n, e⟩ := noTb_keepB e
  refine ⟨n, x.hh b o (noTb_some e).1 ⟨fun z => n (by rw [z]; simp), fun z => n (by rw [z]; simp), (noTb_some e).2⟩⟩
/-- f(.., _law_ask, ..): charted -/
theorem ask_trk {F : NF} {f aA aW C CK : Addr} {q0 : List (List PyData)} {rs0 : List V} {vl vt vk : V} {dk : PyData} {ts : List PyData} {ls : List (List PyData)} {σ : L2.St} {Q : VK} (a : AskG W n G0 H0 F f aA aW G H q0 rs0) (w0 : WOk W n0 H0)
    (N : NOk P w K mg base (L2.CX P w) 2 f F ["_law_some"] frAsk spAsk) (T : Thgs ts) (L : LotsOk ts ls) (hq0 : q0.length ≤ 1000) (A : AskC P w K mg base C) (hσ : [3, 2, 1, 4].map (slotAt σ) = [some (.ref aA), some vl, some vt, some (.ref aW)])
    (dl : Dq G vl (.list (ls.map .list))) (dt : Dq G vt (.list ts)) (dvk : Dq G vk dk) (kk : KSays ts dk)
    (k : ∀ (qe ge : List (List PyData)) (v : V) (G' H' : Hp) (rs : List V), CR ts ls qe ge → AskG W n G0 H0 F f aA aW G' H' (q0 ++ qe) rs → Same G G' → Dq G' v (.tuple [.list ((leastOfD ls).map .list), .list ((sortLD (greatD ts ls)).map .list)]) → Q v H') :
    trkd F.cl frAsk [3, 2, 1, 4] (spCharted P w K mg base CK C 2) σ [.ref f, vk] H Q := by
  intro Tc hc cap
  rw [hσ] at cap
  have nc : ∀ b o, H b = some o → b ∉ adr F.cl := fun b o e z => by rw [hc b z] at e; cases e
  have up : ∀ b o, H b = some o → ovr (adr F.cl) Tc H b = some o := fun b o e => by rw [ovr_off (nc b o e)]; exact e
  have ownA := a.g.own aA (by simp)
  have ownW := a.g.own aW (by simp)
  have nAW : aA ≠ aW := by
    have := a.g.nd
    simp at this
    exact fun z => this z.symm
  obtain ⟨cells, pend, acc, cnt, k1, k2, _⟩ := a.w.str
  have gS : ∀ b ∈ [aA, aW, W.st, W.ce], G b = none := fun b hb => by
    simp only [List.mem_cons, List.not_mem_nil, or_false] at hb
    rcases hb with rfl | rfl | rfl | rfl
    · exact ownA.1
    · exact ownW.1
    · cases q : G W.st with
      | none => rfl
      | some o => exact absurd rfl (a.g.x.cl _ _ q).1
    · cases q : G W.ce with
      | none => rfl
      | some o => exact absurd rfl (a.g.x.cl _ _ q).2.1
  have hS : ∀ b ∈ [aA, aW, W.st, W.ce], ∃ xs, H b = some (.lst xs) := fun b hb => by
    simp only [List.mem_cons, List.not_mem_nil, or_false] at hb
    rcases hb with rfl | rfl | rfl | rfl
    · exact ⟨_, a.asked⟩
    · exact ⟨_, a.wrong⟩
    · exact ⟨_, k1⟩
    · exact ⟨_, k2⟩
  have kb : ∀ {v : V} {d : PyData}, Dq G v d → Dq (keepB [aA, aW, W.st, W.ce] (ovr (adr F.cl) Tc H)) v d := fun dv => keepB_up dv fun b o e => by
    have e0 := (noTb_some e).1
    exact ⟨(fun z => by rw [gS b z] at e0; cases e0), up _ _ (a.g.x.gh _ _ e0)⟩
  have S : AskS [aA, aW, W.st, W.ce] F f aA aW vl vt ts ls (ovr (adr F.cl) Tc H) :=
    ⟨by simp, by simp, fun b hb => by
      obtain ⟨xs, e⟩ := hS b hb
      rw [up _ _ e]; simp, up _ _ a.fn, up _ _ a.code, cap, nc _ _ a.fn, nc _ _ a.code, nAW, ⟨_, up _ _ a.asked⟩, up _ _ a.wrong, kb dl, kb dt⟩
  refine ask_charted S N T L hq0 A (fun b o e => up _ _ (a.g.x.gh _ _ e)) gS dvk kk (up _ _ a.asked) (keepB_ups a.qs fun b o e => ?_) fun qe ge g v G' H' rs cr st hA hq z dv => ?_
  · obtain ⟨n, e⟩ := noTb_keepB e
    exact ⟨n, up _ _ (noTb_some e).1⟩
  · have celd := cap.celled
    have hcell : ∀ c ∈ adr F.cl, H' c = Tc c := fun c h => by
      obtain ⟨o, e⟩ := celd c h
      rw [st c (by rw [e]; simp) (ne_of e (up _ _ a.asked) (by intro z; unfold CelO at z; cases z)), ovr_in h]
    refine ⟨hcell, ?_⟩
    have keep : ∀ b o, H b = some o → b ≠ aA → rm (adr F.cl) H' b = some o := fun b o e n => by
      rw [rm_off (nc b o e), st b (by rw [up _ _ e]; simp) n]
      exact up _ _ e
    have cA : aA ∉ adr F.cl := nc _ _ a.asked
    have eA : rm (adr F.cl) H' aA = some (.lst rs) := by rw [rm_off cA]; exact hA
    have dom : ∀ b, rm (adr F.cl) H' b = none → H b = none := fun b e => by
      by_cases y : b ∈ adr F.cl
      · exact hc b y
      · rw [rm_off y] at e
        have := z.dom b e
        rwa [ovr_off y] at this
    have gc : ∀ b o, G' b = some o → b ∉ adr F.cl := fun b o e y => by
      rcases z.fr b (by rw [e]; simp) with q | q
      · cases w : G b with
        | none => exact q w
        | some u => exact nc _ _ (a.g.x.gh _ _ w) y
      · obtain ⟨u, w⟩ := celd b y
        rw [w] at q; cases q
    have gA' : ∀ b ∈ [aA, aW, W.st, W.ce], G' b = none := fun b hb => by
      cases q : G' b with
      | none => rfl
      | some o =>
        rcases z.fr b (by rw [q]; simp) with y | y
        · exact absurd (gS b hb) y
        · obtain ⟨xs, e⟩ := hS b hb
          rw [up _ _ e] at y; cases y
    have jo : ∀ b ∈ [aA, aW, W.st, W.ce], joinG G G' b = none := fun b hb => by
      unfold joinG
      rw [gS b hb]
      show noTb G' b = none
      cases q : noTb G' b with
      | none => rfl
      | some o =>
        have := (noTb_some q).1
        rw [gA' b hb] at this; cases this
    have gw : GrW W G0 H0 [aW, aA] (joinG G G') (rm (adr F.cl) H') := by
      refine ⟨⟨fun b o e kp => ?_, fun b e => a.g.x.dom b (dom b e), a.g.x.gg.trans joinG_same, fun b o e => ?_, fun b e => ?_, fun b o e => ?_⟩, fun b hb => ?_, a.g.nd⟩
      · have e1 := a.g.x.hh b o e kp
        exact keep b o e1 fun y => by rw [y, ownA.2.1] at e; cases e
      · unfold joinG at e
        cases q : G b with
        | some u =>
          rw [q] at e
          cases e
          exact keep b _ (a.g.x.gh _ _ q) fun y => by rw [y, ownA.1] at q; cases q
        | none =>
          rw [q] at e
          have e0 := (noTb_some e).1
          rw [rm_off (gc _ _ e0)]
          exact z.gh _ _ e0
      · unfold joinG at e
        cases q : G b with
        | some u => exact a.g.x.fr b (by rw [q]; simp)
        | none =>
          rw [q] at e
          cases y : noTb G' b with
          | none => exact absurd y e
          | some o =>
            have e0 := (noTb_some y).1
            rcases z.fr b (by rw [e0]; simp) with h | h
            · exact absurd q h
            · rw [ovr_off (gc _ _ e0)] at h
              exact .inr (a.g.x.dom b h)
      · unfold joinG at e
        cases q : G b with
        | some u => rw [q] at e; cases e; exact a.g.x.cl _ _ q
        | none =>
          rw [q] at e
          have e0 := (noTb_some e).1
          exact ⟨(fun y => by rw [y, gA' W.st (by simp)] at e0; cases e0), (fun y => by rw [y, gA' W.ce (by simp)] at e0; cases e0), (noTb_some e).2⟩
      · simp only [List.mem_cons, List.not_mem_nil, or_false] at hb
        rcases hb with rfl | rfl
        · exact ⟨jo _ (by simp), ownW.2.1, _, keep _ _ a.wrong nAW.symm⟩
        · exact ⟨jo _ (by simp), ownA.2.1, _, eA⟩
    have stA := (a.g.off w0 (p := aA) (by simp))
    refine k qe ge v _ _ rs cr ⟨gw, WOk_but (Z := fun b => b = aA) a.w (fun b o e n => keep b o e n) (fun b y => ⟨_, y ▸ a.asked⟩) (fun y => stA.1 y.symm) fun y => stA.2 y.symm, keep _ _ a.fn (ne_of a.fn a.asked (by intro z; unfold FnO at z; cases z)), keep _ _ a.code (ne_of a.code a.asked (by intro z; unfold CodeO at z; cases z)), eA, keep _ _ a.wrong nAW.symm, keepB_ups hq fun b o e => ?_⟩ joinG_same (joinG_dq z.gg dv)
    obtain ⟨n, e⟩ := noTb_keepB e
    have e0 := (noTb_some e).1
    refine ⟨fun y => n (List.mem_cons_of_mem _ y), ?_⟩
    by_cases y : b ∈ adr F.cl
    · exfalso
      obtain ⟨o2, q⟩ := celd b y
      rw [hcell b y] at e0
      rw [ovr_in y, e0] at q
      cases q
      exact noTb_ne e _ rfl
    · rw [rm_off y]; exact e0
end
end K48
set_option Elab.async false
set_option linter.all false
set_option maxRecDepth 100000
set_option maxHeartbeats 8000000
/-! K48t: _law_charted_right -/
namespace K48
open PySem PySem.Spec PyProof.Rows L2 PD StX RZ NdefX LamX
section
variable {P : Program} {w : World} {K : PySem.W.Frag} {mg : Str → Option Value} {base : Heap} {G H G' H' : Hp}
theorem RR2_gtI {i j : Int} : RR2 (rI0 fun i j => .bl (decide (j < i))) (.int i) (.int j) (.bool (decide (j < i))) := fun x y G H Q hs h1 h2 k => by
  cases h1
  cases h2
  exact ⟨i, j, rfl, rfl, k _ G H (.refl hs) (.bl _)⟩
theorem RR2_mulI {i j : Int} (h : CMul i j) : RR2 (rI CMul fun i j => .int (i * j)) (.int i) (.int j) (.int (i * j)) := fun x y G H Q hs h1 h2 k => by
  cases h1
  cases h2
  exact ⟨i, j, rfl, rfl, h, k _ G H (.refl hs) (.int _)⟩
def prCR (ds : List PyData) : Prop := ∃ ts ls, ds = [.list ts, .list (ls.map .list)] ∧ Thgs ts ∧ LotsOk ts ls
def spCR (t : Tb) : Sp := spS t (fun _ => 1000) prCR DTrue
theorem fn_cright {t : Tb} {CK CL C c T : Addr} (D : DfC K mg "_law_charted_right" sCRight c) (MN : MkN t base mg c T nmAsk)
    (FC : FnK P w K mg base (L2.CX P w) "charted" 7 2 ["keys", "ask"] (fun l => swap2 l) (spCharted P w K mg base CK C 2))
    (AC : AskC P w K mg base C) (FM : FnK P w K mg base (L2.CX P w) "meeting" 6 2 ["lots", "keys"] (fun l => swap2 l) (spMeeting CK CL))
    (FL : Fn P w K mg base CX0 "_law_loose" 5 2 (spS t cLoose (prLoose 3) DLoose)) (FS : Fn P w K mg base CX0 "_law_same" 5 2 (spP (DSame 4)))
    (FLL : Fn P w K mg base CX0 "_law_lots" 5 1 (spW t (fun _ => 0) prLotsL DLotsL)) (FLO : Fn P w K mg base CX0 "_law_least_of" 2 2 (spP DLeastOf)) (FW : Fn P w K mg base CX0 "_law_within" 1 2 (spP DWithin)) (FO : Fn P w K mg base CX0 "_law_each_once" 1 1 (spP DOnce))
    (m1 : mg "any" = none) (m2 : mg "isinstance" = none) (m3 : mg "list" = none) (m4 : mg "sorted" = none) (m5 : mg "all" = none) (m6 : mg "len" = none) :
    Fn P w K mg base CX0 "_law_charted_right" 8 3 (spCR t) := by
  refine D.fn scCRight (by rintro vs H Q E ⟨W, G, ds, n, us, ht, rfl, hG, hcl, hw, hl, hd, ⟨ts, ls, rfl, _⟩, k⟩; have := hd.len; simp at this; simp [this]) rfl (fun _ _ _ _ _ _ us hl => match us, hl with | [_, _, _], _ => rfl) fun f A outer s H vs Q E hr hsp => ?_
  have hu := hr.u65
  have hr1 := hr.mono (show 1 ≤ 7 by decide)
  refine ⟨_, pss_cons (ps_asg (pe_tup (pa_cons (pe_lst pa_nil) (pa_cons (pe_lst pa_nil) pa_nil))) (pg_tup (by rfl) (pgs_cons (pg_name (i := 3) scCRight.nd rfl (.inr rfl)) (pgs_cons (pg_name (i := 4) scCRight.nd rfl (.inr rfl)) pgs_nil))))
    (pss_cons (ps_ndefZ (i := 5) (st := sAsk) (name := "_law_ask") (nm := nmAsk) (c := c) (P := T) rfl MN.tb rfl rfl (ndef_free (sc := defScope sCRight) (nsc := C8.fnScope sAsk) (fr := frAsk) (by decide +kernel)) rfl rfl rfl scCRight.nd rfl (.inl rfl) (.inl rfl))
    (pss_cons (ps_set (i := 6) scCRight.nd rfl (.inl rfl) (pe_fn FLL (hr.mono (by decide)) (by rfl) pass0 (pa_cons (xe_sorted (K := K) m4 hu (pv 1)) pa_nil)))
    (pss_cons (ps_par (i := 7) (j := 8) rfl scCRight.nd rfl rfl (by decide) rfl rfl (pa_cons (pe_fn FLO (hr.mono (by decide)) (by rfl) pass0 (pa_cons (pv 1) (pa_cons (pv 2) pa_nil))) (pa_cons (pe_lst pa_nil) pa_nil)) rfl)
    (pss_cons (ps_for PassesOwn.never rfl (pi_list (xe_lc1 nCRight (defScope sCRight) 9 (pi_list (pv 6)) (by decide +kernel) scCRight.nd (.inl rfl)
        (fun _ _ _ _ _ => pts_one (pt_not (pt_val (xe_any (K := K) m1 (xe_lc1 (tt := tYes) nCRight (relS crC1 (defScope sCRight)) 12 (xi_list (K := K) (pv 2)) (by decide +kernel) scCRight.nd (.inr rfl) (fun _ _ _ _ _ => pts_nil) (fun _ _ _ _ _ => pe_fn FW hr1 (by rfl) pass0 (pa_cons (pv 12) (pa_cons (pv 9) pa_nil))))))))
        (fun _ _ _ _ _ => pv 9))) (pg_name (i := 9) scCRight.nd rfl (.inr rfl))
      (pss_one (ps_if (pt_val (xe_all (K := K) m5 (xe_lc1 nCRight (defScope sCRight) 13 (pi_list (pv 1)) (by decide +kernel) scCRight.nd (.inl rfl) (fun _ _ _ _ _ => pts_one (xt_notin (K := K) hu (pv 13) (pv 9)))
        (fun _ _ _ _ _ => xe_any (K := K) m1 (xe_lc1 (tt := tYes) nCRight (relS crC2 (defScope sCRight)) 12 (xi_list (K := K) (pv 2)) (by decide +kernel) scCRight.nd (.inr rfl) (fun _ _ _ _ _ => pts_nil) (fun _ _ _ _ _ => pe_fn FW hr1 (by rfl) pass0 (pa_cons (pv 12) (pa_cons (pe_op op_cat (pv 9) (pe_lst (pa_cons (pv 13) pa_nil))) pa_nil)))))))) (pss_one (xs_append (pv 8) (pv 9))) pss_nil)))
    (pss_cons (ps_set (i := 10) scCRight.nd rfl (.inl rfl) (pe_fnT (own_ask) FC.fn hr (fun s H e s' h => cx_no h) (pa_cons (pv 5) (pa_cons (pe_fn FL (hr.mono (by decide)) (by rfl) pass0 (pa_cons (pv 0) (pa_cons (pv 1) pa_nil))) pa_nil)) spc_len))
    (pss_cons (ps_if (pw_or (pt_not (pt_val (pe_fn FS (hr.mono (by decide)) (by rfl) pass0 (pa_cons (pv 10) (pa_cons (pe_tup (pa_cons (pv 7) (pa_cons (xe_sorted (K := K) m4 hu (pv 8)) pa_nil))) pa_nil))))) (pw_or (xt_ne (K := K) hu (pv 4) (pe_lst pa_nil)) (pw_or1 (pt_cmpR op_ne (xe_len (K := K) m6 (pe_fn FO hr1 (by rfl) pass0 (pa_cons (pv 3) pa_nil))) (xe_len (K := K) m6 (pv 3)) (nomark _))))).pt (pss_one (ps_ret pe_bl)) pss_nil)
    (pss_cons (ps_if (pt_cmpR op_gt (xe_len (K := K) m6 (pv 3)) (pe_op op_add (xe_len (K := K) m6 (pv 7)) (pe_op op_mul (pe_op op_add (xe_len (K := K) m6 (pv 1)) pe_int) (xe_len (K := K) m6 (pv 8)))) (nomark _)) (pss_one (ps_ret pe_bl)) pss_nil)
    (pss_cons (ps_if (pt_not (pt_val (pe_fn FS (hr.mono (by decide)) (by rfl) pass0 (pa_cons (pe_fnTK own_ask FC hr (fun s H e s' h => cx_no h) (pk_cons (pv 1) (pk_cons (pv 5) pk_nil))) (pa_cons (pv 10) pa_nil))))) (pss_one (ps_ret pe_bl)) pss_nil)
    (pss_cons (xs_setLc1 (tt := tYes) nCRight (defScope sCRight) 11 12 (pi_list (pv 8)) (by decide +kernel) scCRight.nd (.inl rfl) (fun _ _ _ _ _ => pts_nil)
      (fun _ _ _ _ _ => xe_lc1 nCRight (relS crC3 (defScope sCRight)) 13 (xi_list (K := K) (xe_sorted (K := K) m4 hu (pv 1))) (by decide +kernel) scCRight.nd (.inr rfl) (fun _ _ _ _ _ => pts_one (xt_notin (K := K) hu (pv 13) (pv 12))) (fun _ _ _ _ _ => pv 13)) rfl rfl rfl rfl)
    (pss_one (ps_ret (pe_fn FS (hr.mono (by decide)) (by rfl) pass0 (pa_cons (pe_lst (pa_cons (pe_fn FM.fn (hr.mono (by decide)) (by rfl) pass_no (pa_cons (pv 1) (pa_cons (pv 7) pa_nil))) (pa_cons (pe_fn FM.fn (hr.mono (by decide)) (by rfl) pass_no (pa_cons (pv 1) (pa_cons (pv 11) pa_nil))) pa_nil))) (pa_cons (pe_lst (pa_cons (xe_sorted (K := K) m4 hu (pv 11)) (pa_cons (pv 7) pa_nil))) pa_nil)))))))))))))), ?_⟩
  obtain ⟨W, G, ds, n, us, rfl, rfl, hG, hcl, hw, hl, hd, ⟨ts, ls, rfl, TH, L⟩, kq⟩ := hsp
  obtain ⟨u, u2, rfl, du, du2⟩ := hd.two
  have hsz : sizeLine = 16777216 := sizeLine_eq
  have hl : n + 1000 ≤ lim := hl
  have t6 := TH.fam.few
  have l64 := L.few
  have hts : ∀ l ∈ ls, l.length ≤ 6 := fun l hl => Nat.le_trans ((L.nd l hl).length_le_of_subset (L.sub l hl)) t6
  -- _law_asked, _law_wrong = [], []
  refine ⟨by show 0 ≤ sizeLine; omega, fun aA hA => ⟨by show 0 ≤ sizeLine; omega, fun aW hW => ⟨by show 2 ≤ sizeLine; omega, fun tp htp => ⟨tp, _, rfl, SqT.of upd_same, rfl, _, _, rfl, _, _, rfl, rfl, ?_⟩⟩⟩⟩
  have g1 := (((GrW.start hG hcl).new (xs := []) hw hA).new (xs := []) hw hW).same hw (same_new (o := .tup [.ref aA, .ref aW]) htp)
  have w1 := ((hw.up (same_new (o := .lst []) hA)).up (same_new (o := .lst []) hW)).up (same_new (o := .tup [.ref aA, .ref aW]) htp)
  have nWA : aA ≠ aW := ne_of_none upd_same hW
  have eW : (upd (upd (upd H aA (.lst [])) aW (.lst [])) tp (.tup [.ref aA, .ref aW])) aW = some (.lst []) := by rw [upd_ne (ne_of_none upd_same htp)]; exact upd_same
  have eA : (upd (upd (upd H aA (.lst [])) aW (.lst [])) tp (.tup [.ref aA, .ref aW])) aA = some (.lst []) := by
    have q : (upd (upd H aA (.lst [])) aW (.lst [])) aA = some (.lst []) := by rw [upd_ne nWA]; exact upd_same
    rw [upd_ne (ne_of_none q htp)]; exact q
  generalize upd (upd (upd H aA (.lst [])) aW (.lst [])) tp (.tup [.ref aA, .ref aW]) = H1 at g1 w1 eW eA
  -- def _law_ask
  refine ⟨w1.tn _ MN.mem, fun fa c' H2 M => ?_⟩
  generalize hFF : NF.of sAsk "_law_ask" _ _ c' = F at M
  have x2 := MN.ext M g1.x.gh hcl
  have w2 := MN.made M w1
  have kA := g1.off hw (p := aA) (by simp)
  have kW := g1.off hw (p := aW) (by simp)
  have a2 : AskG W n G H F fa aA aW G H2 [] [] := ⟨g1.ext hw x2, w2, M.f1, M.c1, x2.hh _ _ eA ⟨kA.1, kA.2, fun _ z => nomatch z⟩, x2.hh _ _ eW ⟨kW.1, kW.2, fun _ z => nomatch z⟩, .nil⟩
  -- _law_every
  refine tSetN_use (c := 0) a2.g.x.gh a2.g.x.cl a2.w (by omega) (D := (· = .list ((lotsD (sortD ts)).map .list))) (PN.imp (PN_call (c1 := 0) (c2 := 0) (PNA_of (PRA_one (PR_CB (RR_sorted TH.fam.kin.sortOk) (PRA_one (PV du))))) fun ds e => by
    subst e
    refine ⟨⟨sortD ts, rfl, TH.sort.fam.kin, by rw [sortD_len]; omega⟩, Nat.le_refl _, fun d ⟨ts', e1, e2⟩ => ?_⟩
    cases e1
    exact e2) (Nat.le_refl _) fun _ h => h) fun d3 v3 G3 H3 hd3 x3 w3 dv3 => ?_
  subst hd3
  have a3 := a2.ext hw x3 w3
  have du_3 := du.up x3.gg
  have du2_3 := du2.up x3.gg
  -- _law_least, _law_greatest = .., []
  refine PR_call (PRA_two (PR_var (i := 1) rfl du_3) (PR_var (i := 2) rfl du2_3)) ⟨_, ts, ls, rfl, rfl, ⟨TH.fam.kin, fun l hl x hx => L.sub l hl hx⟩, fun l hl => by have := hts l hl; omega, by omega⟩ H3 _ a3.g.x.gh fun v4 G4 H4 e4 dv4 => ⟨by show 0 ≤ sizeLine; omega, fun aG hG4 => ⟨v4, _, rfl, ?_⟩⟩
  have a4 := a3.ext hw (e4.w a3.g.x.cl a3.w) (a3.w.up e4.hh)
  have dv4 := joinG_dq e4.gg dv4
  have s4 : Same G3 (joinG G3 G4) := joinG_same
  generalize joinG G3 G4 = G4' at a4 dv4 s4
  have du_4 := du_3.up s4
  have du2_4 := du2_3.up s4
  have dv3_4 := dv3.up s4
  have g5 := a4.g.new (xs := []) hw hG4
  have w5 := a4.w.up (same_new (o := .lst []) hG4)
  have st5 := same_new (o := .lst []) hG4
  have lc := lots_len (sortD ts)
  rw [sortD_len] at lc
  have lc64 : (lotsD (sortD ts)).length ≤ 64 := by rw [lc]; exact Nat.le_trans (Nat.pow_le_pow_right (by decide) t6) (by decide)
  have lsub : ∀ s ∈ lotsD (sortD ts), s ⊆ ts ∧ s.length ≤ 6 := fun s hs => by
    have c := (all_mem TH.fam).mp hs
    exact ⟨c.sub, Nat.le_trans (c.le c.sub) t6⟩
  have sh : ∀ s : List PyData, s ⊆ ts → ShL 3 s := fun s hs d hd => TH.fam.kin.shL d (hs hd)
  -- for _law_some in ..
  have anyQ : ∀ {σ : L2.St} {G1 : Hp} {t : PyData → PyData} {te : TE} {l : List PyData}, ShL 10 l → WR (iList K (tVar 2)) σ G1 (ls.map .list) → (∀ v, wipe ((wipe σ [12]).set 12 (some v)) [12] = wipe σ [12]) → (∀ G2 (lot : List PyData) w, Same G1 G2 → lot ∈ ls → Dq G2 w (.list lot) → PR te ((wipe σ [12]).set 12 (some w)) G2 (.list l)) →
      (∀ G2 (lot : List PyData) w, Same G1 G2 → lot ∈ ls → Dq G2 w (.list lot) → ((wipe σ [12]).set 12 (some w))[12]? = some (some w)) →
      PR (tCB (rAny K) (tCons (tLc (iList K (tVar 2)) (gName 12) tYes (tCall (spP DWithin) [] E0 (tCons (tVar 12) (tCons te tNil))) [12]) tNil)) σ G1 (.bool (askD ls l)) := fun hsl hw hset hte h12 =>
    PR_any (bs := ls) (q := fun lot => withinD lot _) (PR_map1 (enc := .list) hw hset (fun G2 lot w h2 hl dw => PR_call (PRA_two (PR_var (h12 G2 lot w h2 hl dw) dw) (hte G2 lot w h2 hl dw)) ⟨lot, _, rfl, rfl, fun d hd => (TH.fam.kin.shL d (L.sub lot hl hd)).mono (by decide), hsl, by have := hts lot hl; omega⟩) (by omega))
  have fle : (falseD ts ls).length ≤ 64 := Nat.le_trans (List.length_filter_le _ _) lc64
  have fsub : ∀ s ∈ falseD ts ls, s ⊆ ts ∧ s.length ≤ 6 := fun s hs => lsub s (List.mem_filter.mp hs).1
  refine tForN_use (DL := (· = (falseD ts ls).map .list)) g5.x.gh g5.x.cl w5 (c := 0) (by omega) (WN_list (D := (· = .list ((falseD ts ls).map .list))) (PN_of (PR_lc1 (bs := lotsD (sortD ts)) (enc := .list) (f := .list) (p := fun s => !askD ls s) (WR_list (PR_var (i := 6) rfl dv3_4)) (fun _ => rfl) (fun G6 s v h6 hs dv =>
    ⟨TR_not (TR_tB (anyQ (t := id) ((sh s (lsub s hs).1).mono (by decide)) (WR_list (PR_var (i := 2) rfl (du2_4.up h6))) (fun _ => rfl) (fun G2 lot w h2 hl dw => PR_var (i := 9) rfl (dv.up h2)) fun _ _ _ _ _ _ => rfl)), fun _ => PR_var (i := 9) rfl dv⟩) (by omega))) fun d hd => ⟨_, hd, rfl⟩) fun ds J G6 H6 hds x6 w6 dw => ?_
  subst hds
  have g6 := g5.ext hw x6
  have oG := g5.off hw (p := aG) (by simp)
  have e6G : H6 aG = some (.lst []) := x6.hh _ _ upd_same ⟨oG.1, oG.2, fun _ z => nomatch z⟩
  have a6 := (a4.ext hw ⟨fun b o e _ => st5 _ _ e, fun b e => st5.free e, Same.refl _, a4.g.x.gh.trans st5, fun _ h => .inl h, a4.g.x.cl⟩ w5).ext hw x6 w6
  have nAG : aA ≠ aG := ne_of_none a4.asked hG4
  have nWG : aW ≠ aG := ne_of_none a4.wrong hG4
  have nfG : fa ≠ aG := ne_of_none a4.fn hG4
  have ncG : F.c ≠ aG := ne_of_none a4.code hG4
  refine for_nm dw (fun i σ H7 => ∃ (G7 : Hp) (acc : List V) (x9 : Option V), σ = [some (.ref W.st), some u, some u2, some (.ref aA), some (.ref aW), some (.ref fa), some v3, some v4, some (.ref aG), x9, none, none, none, none] ∧ GrW W G H [aG, aW, aA] G7 H7 ∧ WOk W n H7 ∧ Same G6 G7 ∧ H7 aG = some (.lst acc) ∧ DqAll G7 acc ((((falseD ts ls).take i).filter (topD ts ls)).map .list) ∧
    H7 fa = some (FnO fa F) ∧ H7 F.c = some (CodeO F.c F.qual) ∧ H7 aA = some (.lst []) ∧ H7 aW = some (.lst [])) ?_ ?_ ?_ ?_
  · exact ⟨G6, [], none, rfl, g6, w6, Same.refl _, e6G, .nil, a6.fn, a6.code, a6.asked, a6.wrong⟩
  · rintro i σ H7 _ ⟨G7, acc, x9, rfl, g7, _, s7, _⟩
    exact s7.trans g7.x.gh
  · rintro i d y σ H7 H8 q1 ⟨G7, acc, x9, rfl, g7, w7, s7, hacc, da, k1, k2, k3, k4⟩ q2 q3
    obtain ⟨s, hs, rfl⟩ := map_get q1
    obtain ⟨G8, g8, w8, s8, dy⟩ := g7.yld hw w7 s7 q3
    have hacc8 := q2 _ _ hacc
    have hsm : s ∈ falseD ts ls := List.mem_of_getElem? hs
    obtain ⟨ss, sl⟩ := fsub s hsm
    have da8 := da.up s8
    have sg8 : Same (joinG G3 G4) (joinG G3 G4) := Same.refl _
    have s48 := (x6.gg.trans s7).trans s8
    have etk : ((falseD ts ls).take (i + 1)).filter (topD ts ls) = ((falseD ts ls).take i).filter (topD ts ls) ++ [s].filter (topD ts ls) := by rw [List.take_add_one, hs, List.filter_append]; rfl
    have al : acc.length ≤ 64 := by
      rw [da8.len, List.length_map]
      exact Nat.le_trans (List.length_filter_le _ _) (by rw [List.length_take]; omega)
    refine tIf_use (b := topD ts ls s) (TR_tB (PR_all (bs := ts.filter fun x => !hasD s x) (q := fun x => askD ls (s ++ [x])) (PR_lc1 (bs := ts) (enc := id) (p := fun x => !hasD s x) (f := fun x => .bool (askD ls (s ++ [x]))) (by rw [List.map_id]; exact WR_list (PR_var (i := 1) rfl (du_4.up s48))) (fun _ => rfl) (fun G9 x v h9 hx dv =>
      ⟨TR_test (PR_op (RR2_notin ((TH.fam.kin.shL x hx).shaped (by decide)) ((sh s ss).list.shaped (by decide))) (PR_var (i := 13) rfl dv) (PR_var (i := 9) rfl (dy.up h9))), fun _ => ?_⟩) (by omega)))) g8.x.gh fun H9 e9 => ?_
    · have sx : ShL 3 (s ++ [x]) := fun d hd => by
        rcases List.mem_append.mp hd with z | z
        · exact sh s ss d z
        · simp only [List.mem_singleton] at z
          subst z
          exact TH.fam.kin.shL d hx
      exact anyQ (t := id) (sx.mono (by decide)) (WR_list (PR_var (i := 2) rfl ((du2_4.up s48).up h9))) (fun _ => rfl) (fun G2 lot w h2 hl dw => PR_op (RR2_cat (by show s.length + 1 ≤ sizeLine; omega)) (PR_var (i := 9) rfl ((dy.up h9).up h2)) (PR_lst (PRA_one (PR_var (i := 13) rfl (dv.up h2))) (by show 1 ≤ sizeLine; omega))) fun _ _ _ _ _ _ => rfl
    · have g9 := g8.same hw e9
      have w9 := w8.up e9
      have hacc9 := e9 _ _ hacc8
      cases hb : topD ts ls s with
      | true =>
        refine iteT (put_appendW g9 hw w9 (List.mem_cons_self ..) rfl hacc9 (PR_var (i := 9) rfl dy) (by omega) fun v G10 H10 g10 w10 s10 dv h10 kk => ⟨G10, _, some y, rfl, g10, w10, (s7.trans s8).trans s10, h10, ?_, kk _ _ nfG (e9 _ _ (q2 _ _ k1)), kk _ _ ncG (e9 _ _ (q2 _ _ k2)), kk _ _ nAG (e9 _ _ (q2 _ _ k3)), kk _ _ nWG (e9 _ _ (q2 _ _ k4))⟩)
        rw [etk, List.filter_cons, if_pos hb, List.map_append]
        exact (da8.up s10).snoc dv
      | false =>
        refine iteF ⟨G8, acc, some y, rfl, g9, w9, s7.trans s8, hacc9, ?_, e9 _ _ (q2 _ _ k1), e9 _ _ (q2 _ _ k2), e9 _ _ (q2 _ _ k3), e9 _ _ (q2 _ _ k4)⟩
        rw [etk, List.filter_cons, if_neg (by rw [hb]; simp), List.filter_nil, List.append_nil]
        exact da8
  · rintro σ H7 ⟨G7, acc, x9, rfl, g7, w7, s7, hacc, da, k1, k2, k3, k4⟩
    rw [List.length_map, List.take_length] at da
    obtain ⟨g8, sg⟩ := g7.freeze hw hacc
    have dG : Dq (upd G7 aG (.lst acc)) (.ref aG) (.list ((greatD ts ls).map .list)) := .lst upd_same (da.up sg)
    have a8 : AskG W n G H F fa aA aW (upd G7 aG (.lst acc)) H7 [] [] := ⟨g8, w7, k1, k2, k3, k4, .nil⟩
    have s8 := (x6.gg.trans s7).trans sg
    generalize upd G7 aG (.lst acc) = G8 at a8 dG s8
    have du_8 := du_4.up s8
    have du2_8 := du2_4.up s8
    have dv4_8 := dv4.up s8
    obtain ⟨le1, _, _⟩ := leastOf_is TH.fam L.sub L.nd
    have lec := lst_can TH L
    obtain ⟨len1, len2⟩ := can_num TH le1 lec
    obtain ⟨gr1, gr2⟩ := great_is TH L
    have grc : ∀ l ∈ greatD ts ls, Can ts l := fun l hl => can_srt.mpr ((gr2 l).mp hl).can
    obtain ⟨grn1, grn2⟩ := can_num TH gr1 grc
    have grS : ∀ l ∈ sortLD (greatD ts ls), Can ts l := fun l hl => grc l (sortLD_mem.mp hl)
    have grk : KinL ts (greatD ts ls) := ⟨TH.fam.kin, fun l hl x hx => (grc l hl).sub hx⟩
    -- _law_told = charted(_law_ask, ..)
    have loose : PN W (tCall (spS W.t cLoose (prLoose 3) DLoose) [] E0 (tCons (tVar 0) (tCons (tVar 1) tNil))) [some (.ref W.st), some u, some u2, some (.ref aA), some (.ref aW), some (.ref fa), some v3, some v4, some (.ref aG), x9, none, none, none, none] G8 (0 + 1000) (fun d => Lz (.list ts) d) :=
      PN_callS (DS := (· = [.list ts])) rfl (PNA_of (PRA_one (PR_var (i := 1) rfl du_8))) fun ds e => by
        subst e
        refine ⟨⟨_, rfl, TH.flat.1⟩, TH.flat.2, fun d ⟨a', e, z⟩ => ?_⟩
        simp only [List.cons.injEq, and_true] at e
        subst e
        exact z
    refine ⟨_, rfl, loose H7 n _ a8.g.x.gh a8.g.x.cl a8.w (by omega) fun dk vk G9 H9 hdk x9' w9 dvk => ?_⟩
    have a9 := a8.ext hw x9' w9
    subst hFF
    refine ask_trk a9 hw (ask_nok FW m1 m2 m3 m4) TH L (q0 := []) (by simp) AC rfl (du2_8.up x9'.gg) (du_8.up x9'.gg) dvk (ksays_lz TH hdk) fun qe ge v10 G10 H10 rs cr a10 s10 dv10 => ?_
    have s80 := x9'.gg.trans s10
    have s40 := s8.trans s80
    have du_10 := du_8.up s80
    have du2_10 := du2_8.up s80
    have dv4_10 := dv4_8.up s80
    have dG_10 := dG.up s80
    have big : ∀ {v d}, Dq G10 v d → Dq (noTb H10) v d := fun dv => dv.noTb.up fun b o e => noTb_of e (a10.g.x.gh _ _ (noTb_some e).1)
    have sb : Same (noTb H10) H10 := fun b o e => (noTb_some e).1
    have qnum := can_num TH cr.nd cr.can
    have dAs : Dq (noTb H10) (.ref aA) (.list (qe.map .list)) := .lst (noTb_lst a10.asked) (a10.qs.up fun b o e => (keepB_some e).2)
    have dWr : Dq (noTb H10) (.ref aW) (.list []) := .lst (noTb_lst a10.wrong) .nil
    have hon : (onceD (qe.map PyData.list)).length = qe.length := by rw [onceD_lists, List.length_map]; exact once_len TH cr.nd cr.can
    have relT : Rel 4 (.tuple [.list ((leastOfD ls).map .list), .list ((sortLD (greatD ts ls)).map .list)]) := rel_tuple (fun x hx => by
      simp only [List.mem_cons, List.not_mem_nil, or_false] at hx
      rcases hx with rfl | rfl
      · exact can_rel TH le1 lec
      · exact can_rel TH (sortLD_nodup gr1) grS) (by simp)
    have dOn : DOnce [.list (qe.map .list)] (.list (onceD (qe.map .list))) := ⟨_, rfl, rfl, fun d hd => by
      obtain ⟨l, hl, rfl⟩ := List.mem_map.mp hd
      exact (sh l (cr.can l hl).sub).list.mono (by decide), by rw [List.length_map]; omega⟩
    refine tIf_use (b := false) (TR.eq (TR_or (b := !true) (TR_not (TR_tB (PR_call (PRA_two (PR_var (i := 10) rfl (big dv10)) (PR_tup (PRA_two (PR_var (i := 7) rfl (big dv4_10)) (PR_CB (RR_sortedL grk) (PRA_one (PR_var (i := 8) rfl (big dG_10))))) (by show 2 ≤ sizeLine; omega))) ⟨_, rfl, rfl, relT⟩)))
      fun _ => TR_or (TR_test (PR_op (RR2_ne (by decide) (by decide)) (PR_var (i := 4) rfl dWr) (PR_lst PRA_nil (by show 0 ≤ sizeLine; omega)))) fun _ => TR_test (PR_op RR2_neI (PR_CB RR_lenL (PRA_one (PR_call (PRA_one (PR_var (i := 3) rfl dAs)) dOn))) (PR_CB RR_lenL (PRA_one (PR_var (i := 3) rfl dAs))))) (by rw [hon, List.length_map]; simp [PyData.eqv, PyData.eqvAll])) sb fun H11 e11 => iteF (nxt ?_)
    have sz1 : (sortD ts).length = ts.length := sortD_len ts
    refine tIf_use (b := false) (TR.eq (TR_test (PR_op RR2_gtI (PR_CB RR_lenL (PRA_one (PR_var (i := 3) rfl dAs))) (PR_op RR2_addI (PR_CB RR_lenL (PRA_one (PR_var (i := 7) rfl (big dv4_10)))) (PR_op (RR2_mulI (.inl ⟨by omega, by omega⟩)) (PR_op RR2_addI (PR_CB RR_lenL (PRA_one (PR_var (i := 1) rfl (big du_10)))) PR_int) (PR_CB RR_lenL (PRA_one (PR_var (i := 8) rfl (big dG_10)))))))) (by
      have h := cr.few
      simp only [List.length_map]
      refine decide_eq_false fun z => ?_
      have : ((leastOfD ls).length : Int) + ((ts.length : Int) + 1) * ((greatD ts ls).length : Int) = (((leastOfD ls).length + (ts.length + 1) * (greatD ts ls).length : Nat) : Int) := by simp
      rw [this] at z
      omega)) (sb.trans e11) fun H12 e12 => iteF (nxt ?_)
    have e112 := e11.trans e12
    have a12 := a10.ext hw ⟨fun b o e _ => e112 _ _ e, fun b e => e112.free e, Same.refl _, a10.g.x.gh.trans e112, fun _ h => .inl h, a10.g.x.cl⟩ (a10.w.up e112)
    -- not _law_same(charted(keys=.., ask=..), _law_told)
    have hq0 : ([] ++ qe).length ≤ 1000 := by
      have := qnum.1
      rw [List.nil_append]
      omega
    refine ⟨_, rfl, _, rfl, rfl, ask_trk a12 hw (ask_nok FW m1 m2 m3 m4) TH L hq0 AC rfl du2_10 du_10 du_10 (ksays_self TH) fun qe2 ge2 v13 G13 H13 rs2 cr2 a13 s13 dv13 => ?_⟩
    refine ⟨_, rfl, G13, [_, _], .bool true, a13.g.x.gh, .cons dv13 (.cons (dv10.up s13) .nil), ⟨_, rfl, rfl, relT⟩, fun v14 G14 H14 e14 dv14 => ?_⟩
    cases dv14
    refine ⟨true, rfl, iteF (nxt ?_)⟩
    have a14 := a13.ext hw ⟨fun b o e _ => e14.hh _ _ e, fun b e => e14.hh.free e, Same.refl _, a13.g.x.gh.trans e14.hh, fun _ h => .inl h, a13.g.x.cl⟩ (a13.w.up e14.hh)
    have du_13 := du_10.up s13
    have dv4_13 := dv4_10.up s13
    have dG_13 := dG_10.up s13
    -- _law_rests
    refine tSet_use (d := .list ((restsD ts ls).map .list)) a14.g.x.gh (PR.eq (PR_map1 (bs := greatD ts ls) (enc := .list) (f := fun g => .list (restD (sortD ts) g)) (WR_list (PR_var (i := 8) rfl dG_13)) (fun _ => rfl) (fun G15 g v h15 hg dv => PR.eq (PR_lc1 (bs := sortD ts) (enc := id) (f := id) (p := fun x => !hasD g x) (by rw [List.map_id]; exact WR_list (PR_CB (RR_sorted TH.fam.kin.sortOk) (PRA_one (PR_var (i := 1) rfl (du_13.up h15))))) (fun _ => rfl)
      (fun G16 x v' h16 hx dv' => ⟨TR_test (PR_op (RR2_notin ((TH.fam.kin.shL x (sortD_mem.mp hx)).shaped (by decide)) ((sh g (grc g hg).sub).list.shaped (by decide))) (PR_var (i := 13) rfl dv') (PR_var (i := 12) rfl (dv.up h16))), fun _ => PR_var (i := 13) rfl dv'⟩) (by omega)) (by rw [List.map_id]; rfl)) (by omega)) (by unfold restsD; rw [List.map_map]; rfl)) fun v15 G15 H15 e15 dv15 => ?_
    obtain ⟨re1, re2⟩ := rests_can TH L
    have rk : KinL ts (restsD ts ls) := ⟨TH.fam.kin, fun l hl x hx => (re2 l hl).sub hx⟩
    have rs1 : (sortLD (restsD ts ls)).Nodup := sortLD_nodup re1
    have rs2' : ∀ l ∈ sortLD (restsD ts ls), Can ts l := fun l hl => re2 l (sortLD_mem.mp hl)
    have hrel : Rel 4 (.list [.list ((sortLD (restsD ts ls)).map .list), .list ((leastOfD ls).map .list)]) := rel_list (fun x hx => by
      simp only [List.mem_cons, List.not_mem_nil, or_false] at hx
      rcases hx with rfl | rfl
      · exact can_rel TH rs1 rs2'
      · exact can_rel TH le1 lec) (by simp)
    have x15 := e15.w a14.g.x.cl a14.w
    have w15 := a14.w.up e15.hh
    have dv15 := joinG_dq e15.gg dv15
    refine tRet_use x15.gh (PR_call (PRA_two (PR_lst (PRA_two (PRF_meet (meet_least TH L) (PRA_two (PR_var (i := 1) rfl (du_13.up x15.gg)) (PR_var (i := 7) rfl (dv4_13.up x15.gg)))).pr (PRF_meet (meet_rests TH L) (PRA_two (PR_var (i := 1) rfl (du_13.up x15.gg)) (PR_var (i := 11) rfl dv15))).pr) (by show 2 ≤ sizeLine; omega)) (PR_lst (PRA_two (PR_CB (RR_sortedL rk) (PRA_one (PR_var (i := 11) rfl dv15))) (PR_var (i := 7) rfl (dv4_13.up x15.gg))) (by show 2 ≤ sizeLine; omega))) ⟨_, rfl, rfl, hrel⟩) fun v16 G16 H16 e16 d16 => ?_
    exact kq (.bool true) v16 _ H16 rfl ((a14.g.x.trans x15).trans (e16.w x15.cl w15)) ((w15.up e16.hh).mono (by show _ ≤ n + 1000; omega)) (by cases d16; exact .bl true)
end
end K48
set_option Elab.async false
set_option linter.all false
set_option maxRecDepth 100000
set_option maxHeartbeats 4000000
/-! K48u: the lambdas of _law_refused_right, called by _law_met -/
namespace K48
open PySem PySem.Spec PyProof.Rows L2 PD StX RZ NdefX LamX
section
variable {P : Program} {w : World} {K : PySem.W.Frag} {mg : Str → Option Value} {base : Heap} {G H G' H' : Hp}
abbrev sRef : Stmt := top 37
abbrev refB (i : Nat) : Stmt := stAt (defBody sRef) i
abbrev eL1 : Expr := subE 1 (subE 0 (valOf (stAt (bodyOf (refB 1)) 0)))
abbrev eL2 : Expr := subE 1 (subE 1 (valOf (stAt (bodyOf (refB 1)) 1)))
abbrev eL3 : Expr := subE 1 (lamBody eL2)
abbrev eL4 : Expr := subE 1 (subE 1 (subE 0 (valOf (stAt (bodyOf (refB 2)) 0))))
theorem scL1 : NScope ["_law_odd"] [] ["_law_odd"] (compSc eL1) := nscope_by (by decide +kernel)
theorem scL2 : NScope ["_law_odd"] [] ["_law_odd"] (compSc eL2) := nscope_by (by decide +kernel)
theorem scL4 : NScope ["_law_things_here", "_law_odd"] [] ["_law_things_here", "_law_odd"] (compSc eL4) := nscope_by (by decide +kernel)
abbrev FLam (q : Str) (sc : Scope) (cl : List (Str × Addr)) (c : Addr) : NF := ⟨"<lambda>", q, C8.fnArgs (.Pass ⟨0, 0, 0, 0⟩), [], sc, cl, c⟩
def spL1 (CK CL : Addr) : List (Option V) → Sp := fun ws vs H Q E => ∃ v, ws = [some v] ∧ vs = [] ∧ spMeeting CK CL [v, .int 5] H Q E
def spL4 (CK CL : Addr) : List (Option V) → Sp := fun ws vs H Q E => ∃ vt v, ws = [some vt, some v] ∧ vs = [] ∧ spMeeting CK CL [vt, v] H Q E
theorem cal_L1 {CK CL f c : Addr} {q : Str} {cl : List (Str × Addr)} (FM : FnK P w K mg base (L2.CX P w) "meeting" 6 2 ["lots", "keys"] (fun l => swap2 l) (spMeeting CK CL)) :
    Cal P w K mg base 7 f 0 (spL f (FLam q (compSc eL1) cl c) (lamArgs eL1) (lamBody eL1) ["_law_odd"] (spL1 CK CL)) := by
  refine lam_cal (k := 6) (N := ["_law_odd"]) (ps := []) scL1 (fun pm ctv us hl => match us, hl with | [], _ => rfl) fun A outer s H vs ws Q E hr hw hv hsp => ?_
  obtain ⟨v, rfl, rfl, h⟩ := hsp
  refine ⟨_, pe_fn (E := E) FM.fn hr (by rfl) (passes_call (takes_of rfl rfl rfl rfl) fun _ _ _ _ h => h) (pa_cons (pv 0) (pa_cons pe_int pa_nil)), ?_⟩
  exact ⟨_, rfl, h⟩
theorem cal_L4 {CK CL f c : Addr} {q : Str} {cl : List (Str × Addr)} (FM : FnK P w K mg base (L2.CX P w) "meeting" 6 2 ["lots", "keys"] (fun l => swap2 l) (spMeeting CK CL)) :
    Cal P w K mg base 7 f 0 (spL f (FLam q (compSc eL4) cl c) (lamArgs eL4) (lamBody eL4) ["_law_things_here", "_law_odd"] (spL4 CK CL)) := by
  refine lam_cal (k := 6) (N := ["_law_things_here", "_law_odd"]) (ps := []) scL4 (fun pm ctv us hl => match us, hl with | [], _ => rfl) fun A outer s H vs ws Q E hr hw hv hsp => ?_
  obtain ⟨vt, v, rfl, rfl, h⟩ := hsp
  refine ⟨_, pe_fn (E := E) FM.fn hr (by rfl) (passes_call (takes_of rfl rfl rfl rfl) fun _ _ _ _ h => h) (pa_cons (pv 0) (pa_cons (pv 1) pa_nil)), ?_⟩
  exact ⟨_, rfl, _, rfl, h⟩
/-- charted(lambda ..: True, odd): the inner lambda's table is T -/
def spL2 (CK : Addr) (Z : List Addr) (F : NF) (q2 : Str) : List (Option V) → Sp := fun ws vs H Q E => ∃ (v : V) (d : PyData) (T : Addr) (G : Hp), ws = [some v] ∧ vs = [] ∧ Same G H ∧ Dq G v d ∧ (∀ a ps, G a ≠ some (.tbl ps)) ∧ SmallK d ∧ badK d = true ∧ H F.c = some (CodX F.c T F.qual) ∧ (∃ ps, H T = some (.tbl ps)) ∧ (∀ z ∈ Z, H z ≠ none) ∧ TabX Z H [q2] T ∧
  ∀ H1, (∀ a o, a ≠ T → H a = some o → H1 a = some o) → (∀ a, H1 a = none → H a = none) → TabX Z H1 [q2] T → XOut CK "keyring" v H1 E
theorem cal_L2 {CK C f c c0 T0 : Addr} {Z : List Addr} {q : Str} {cl : List (Str × Addr)} (B : TabB base mg c0 T0) (FC : FnK P w K mg base (L2.CX P w) "charted" 7 2 ["keys", "ask"] (fun l => swap2 l) (spCharted P w K mg base CK C 2)) (AC : AskC P w K mg base C) :
    Cal P w K mg base 8 f 0 (spL f (FLam q (compSc eL2) cl c) (lamArgs eL2) (lamBody eL2) ["_law_odd"] (spL2 CK Z (FLam q (compSc eL2) cl c) (q ++ ".<locals>." ++ "<lambda>"))) := by
  refine lam_cal (k := 7) (N := ["_law_odd"]) (ps := []) scL2 (fun pm ctv us hl => match us, hl with | [], _ => rfl) fun A outer s H vs ws Q E hr hw hv hsp => ?_
  obtain ⟨v, d, T, G, rfl, rfl, hG, dv, nt, hs, hb, hc, hT, hz, ht, hx⟩ := hsp
  refine ⟨_, pe_fn (E := E) FC.fn hr (by rfl) (passes_call (takes_of rfl rfl rfl rfl) fun _ _ _ _ h => h) (pa_cons (pe_lamb (W := fun H => H c = some (CodX c T q) ∧ ∃ ps, H T = some (.tbl ps)) (Z := Z) (c := c) (T := T) (qs := []) (fun pins σ H s I ⟨h1, ps, h2⟩ => mkB_run I B h1 h2) rfl (ndef_free (sc := compSc eL2) (nsc := compSc eL3) (fr := []) (by decide +kernel)) rfl) (pa_cons (pv 0) pa_nil)), ?_⟩
  refine ⟨⟨hc, hT⟩, hz, ht, .inr rfl, fun f2 c2 H1 M => ⟨_, rfl, ?_⟩⟩
  obtain ⟨ps, hT⟩ := hT
  refine ⟨G, f2, v, d, rfl, fun a o e => M.stay a o (fun z => ?_) (hG _ _ e), dv, hs, AC, fun _ => hx H1 M.stay M.dom M.tab, fun z => by rw [hb] at z; cases z⟩
  have := hG _ _ e
  rw [z, hT] at this
  exact nt a ps (by rw [e, this])
/-! ### a call of _law_met that tells of a refusal -/
theorem met_use {X : Cx} {W : Wl} {n : Nat} {σ : L2.St} {Q : VK} {qs : List Str} {CK CL C0 c T : Addr} {scope : Scope} {prm : Arguments} {b : Expr} {js : List Nat} {fr : List Str} {fld tag : Str} {v : V} {sp' : Addr → List (Option V) → Sp}
    (hcase : (C0 = CK ∧ fld = "keyring" ∧ tag = "keys") ∨ (C0 = CL ∧ fld = "lots" ∧ tag = "lots")) (m : MkT W.t base mg c T ((X.env.qual ++ "<lambda>") :: qs)) (hw : WOk W n H) (hs : Same G H) (hcl : Cl W G) (cal : ∀ f c', Cal P w K mg base 8 f 0 (spL f (lamF X scope c') prm b fr (sp' c')))
    (hsp : ∀ f c' H4, LamMade X W.t.Z T qs scope prm b H f c' H4 → ExtW W G H G H4 → WOk W n H4 → ∀ (Q' : VK) (E : XK), (∀ dx H', ExtW W G H4 G H' → WOk W n H' → H' dx = some (.xd [(fld, v)]) → E (.ref C0) (some dx) H') → sp' c' (js.map (slotAt σ)) [] H4 Q' E)
    (k : ∀ H' p, ExtW W G H G H' → WOk W n H' → H' p = none → Q (.ref p) (upd H' p (.tup [.str tag, v]))) :
    tCallT (cloFrom X.env.cells scope.names []) fr js (spMet P w K mg base CK CL 8) (tCons (tLamb X (fun _ => True) W.t.Z T qs scope prm b) tNil) σ H Q := by
  show tLamb X (fun _ => True) W.t.Z T qs scope prm b σ H fun v1 H1 => trkd (cloFrom X.env.cells scope.names []) fr js (spMet P w K mg base CK CL 8) σ [v1] H1 Q
  refine lamb_use (base := base) (mg := mg) (c := c) m hw hs hcl fun fl c' H4 M x4 w4 => ?_
  intro Tc hc cap
  have nc : ∀ a o, H4 a = some o → a ∉ adr (cloFrom X.env.cells scope.names []) := fun a o e z => by rw [hc a z] at e; cases e
  have erm : rm (adr (cloFrom X.env.cells scope.names [])) (ovr (adr (cloFrom X.env.cells scope.names [])) Tc H4) = H4 := funext fun a => by
    by_cases z : a ∈ adr (cloFrom X.env.cells scope.names [])
    · rw [rm_in z, hc a z]
    · rw [rm_off z, ovr_off z]
  obtain ⟨T', hcod, _⟩ := M.code
  have eL : ovr (adr (cloFrom X.env.cells scope.names [])) Tc H4 fl = some (LmO fl (lamF X scope c') prm b) := by rw [ovr_off (nc _ _ M.at_)]; exact M.at_
  refine ⟨fl, _, rfl, isFn_lam eL, cal fl c', fun Q2 E2 _ he => ?_⟩
  refine ⟨js.map (slotAt σ), T', eL, by rw [show (lamF X scope c').c = c' from rfl, ovr_off (nc _ _ hcod)]; exact hcod, cap, ?_⟩
  rw [show (lamF X scope c').cl = cloFrom X.env.cells scope.names [] from rfl, erm]
  refine hsp fl c' H4 M x4 w4 _ _ fun dx H' x w' hx n3 => ?_
  have celd := cap.celled
  have dc : dx ∉ adr (cloFrom X.env.cells scope.names []) := fun z => by rw [n3 dx z] at hx; cases hx
  have fin : ∀ p, ovr (adr (cloFrom X.env.cells scope.names [])) (ovr (adr (cloFrom X.env.cells scope.names [])) Tc H4) H' p = none →
      (∀ c ∈ adr (cloFrom X.env.cells scope.names []), upd (ovr (adr (cloFrom X.env.cells scope.names [])) (ovr (adr (cloFrom X.env.cells scope.names [])) Tc H4) H') p (.tup [.str tag, v]) c = Tc c) ∧
      Q (.ref p) (rm (adr (cloFrom X.env.cells scope.names [])) (upd (ovr (adr (cloFrom X.env.cells scope.names [])) (ovr (adr (cloFrom X.env.cells scope.names [])) Tc H4) H') p (.tup [.str tag, v]))) := fun p hp => by
    have pc : p ∉ adr (cloFrom X.env.cells scope.names []) := fun z => by
      obtain ⟨o, e⟩ := celd p z
      rw [ovr_in z, e] at hp; cases hp
    have e : rm (adr (cloFrom X.env.cells scope.names [])) (upd (ovr (adr (cloFrom X.env.cells scope.names [])) (ovr (adr (cloFrom X.env.cells scope.names [])) Tc H4) H') p (.tup [.str tag, v])) = upd H' p (.tup [.str tag, v]) := funext fun a => by
      by_cases z : a ∈ adr (cloFrom X.env.cells scope.names [])
      · rw [rm_in z, upd_ne (show a ≠ p from fun y => pc (y ▸ z)), n3 a z]
      · rw [rm_off z]
        by_cases y : a = p
        · subst y; rw [upd_same, upd_same]
        · rw [upd_ne y, upd_ne y, ovr_off z]
    refine ⟨fun c' hc' => ?_, ?_⟩
    · rw [upd_ne (show c' ≠ p from fun y => pc (y ▸ hc')), ovr_in hc', ovr_in hc']
    · rw [e]
      rw [ovr_off pc] at hp
      exact k H' p (x4.trans x) w' hp
  rcases hcase with ⟨rfl, rfl, rfl⟩ | ⟨rfl, rfl, rfl⟩
  · exact he _ dx v _ (.inl ⟨rfl, by rw [ovr_off dc]; exact hx, fin⟩)
  · exact he _ dx v _ (.inr ⟨rfl, by rw [ovr_off dc]; exact hx, fin⟩)
theorem extW_same {W : Wl} (hs : Same G H) (cl : Cl W G) (e : Same H H') : ExtW W G H G H' := ⟨fun a o q _ => e _ _ q, fun a q => e.free q, Same.refl _, hs.trans e, fun _ h => .inl h, cl⟩
section
variable {X : Cx} {W : Wl} {n : Nat} {σ : L2.St} {Q : VK} {q2 : Str} {CK CL C c T : Addr} {v vt : V} {d : PyData} {ts : List PyData}
theorem met_L1 (FM : FnK P w K mg base (L2.CX P w) "meeting" 6 2 ["lots", "keys"] (fun l => swap2 l) (spMeeting CK CL)) (m : MkT W.t base mg c T ((X.env.qual ++ "<lambda>") :: [q2])) (hw : WOk W n H) (hs : Same G H) (hcl : Cl W G)
    (hσ : slotAt σ 2 = some v) (dv : Dq G v d) (sk : SmallK d) (bk : badK d = true) (k : ∀ H' p, ExtW W G H G H' → WOk W n H' → H' p = none → Q (.ref p) (upd H' p (.tup [.str "keys", v]))) :
    tCallT (cloFrom X.env.cells (compSc eL1).names []) ["_law_odd"] [2] (spMet P w K mg base CK CL 8) (tCons (tLamb X (fun _ => True) W.t.Z T [q2] (compSc eL1) (lamArgs eL1) (lamBody eL1)) tNil) σ H Q := by
  refine met_use (C0 := CK) (fld := "keyring") (tag := "keys") (sp' := fun _ => spL1 CK CL) (.inl ⟨rfl, rfl, rfl⟩) m hw hs hcl (fun f c' => (cal_L1 (q := X.env.qual ++ "<lambda>") FM).mono (by decide)) (fun f c' H4 M x4 w4 Q' E he => ?_) k
  exact ⟨v, by simp [hσ], rfl, G, v, .int 5, d, .int 5, rfl, x4.gh, dv, .int 5, sk, fun _ dx H' h1 h2 h3 => he dx H' (extW_same x4.gh x4.cl h3) (w4.up h3) h2, fun z => by rw [bk] at z; cases z⟩
theorem met_L4 (FM : FnK P w K mg base (L2.CX P w) "meeting" 6 2 ["lots", "keys"] (fun l => swap2 l) (spMeeting CK CL)) (m : MkT W.t base mg c T ((X.env.qual ++ "<lambda>") :: [q2])) (hw : WOk W n H) (hs : Same G H) (hcl : Cl W G)
    (hσ : slotAt σ 2 = some v) (hσ0 : slotAt σ 0 = some vt) (dvt : Dq G vt (.list ts)) (TH : Thgs ts) (dv : Dq G v d) (sk : SmallL d) (bk : badL (sortD ts) d = true) (k : ∀ H' p, ExtW W G H G H' → WOk W n H' → H' p = none → Q (.ref p) (upd H' p (.tup [.str "lots", v]))) :
    tCallT (cloFrom X.env.cells (compSc eL4).names []) ["_law_things_here", "_law_odd"] [0, 2] (spMet P w K mg base CK CL 8) (tCons (tLamb X (fun _ => True) W.t.Z T [q2] (compSc eL4) (lamArgs eL4) (lamBody eL4)) tNil) σ H Q := by
  have kk := ksays_self TH
  have et : thingsD (.list ts) = sortD ts := by unfold thingsD; rw [kk.keys]
  refine met_use (C0 := CL) (fld := "lots") (tag := "lots") (sp' := fun _ => spL4 CK CL) (.inr ⟨rfl, rfl, rfl⟩) m hw hs hcl (fun f c' => (cal_L4 (q := X.env.qual ++ "<lambda>") FM).mono (by decide)) (fun f c' H4 M x4 w4 Q' E he => ?_) k
  exact ⟨vt, v, by simp [hσ, hσ0], rfl, G, vt, v, .list ts, d, rfl, x4.gh, dvt, dv, kk.small TH, (fun z => by rw [kk.good TH] at z; cases z), fun _ => ⟨by rw [kk.keys]; exact TH.fam.kin, sk, fun _ dx H' h1 h2 h3 => he dx H' (extW_same x4.gh x4.cl h3) (w4.up h3) h2, fun z => by rw [et, bk] at z; cases z⟩⟩
theorem met_L2 (hq2 : q2 = X.env.qual ++ "<lambda>" ++ ".<locals>." ++ "<lambda>") (FC : FnK P w K mg base (L2.CX P w) "charted" 7 2 ["keys", "ask"] (fun l => swap2 l) (spCharted P w K mg base CK C 2)) (AC : AskC P w K mg base C) (m : MkT W.t base mg c T ((X.env.qual ++ "<lambda>") :: [q2])) (hone : ∀ p ∈ W.t.T, p.1 ≠ T → ∃ q, p.2 = [q])
    (hw : WOk W n H) (hs : Same G H) (hcl : Cl W G)
    (hσ : slotAt σ 2 = some v) (dv : Dq G v d) (sk : SmallK d) (bk : badK d = true) (k : ∀ H' p, ExtW W G H G H' → WOk W n H' → H' p = none → Q (.ref p) (upd H' p (.tup [.str "keys", v]))) :
    tCallT (cloFrom X.env.cells (compSc eL2).names []) ["_law_odd"] [2] (spMet P w K mg base CK CL 8) (tCons (tLamb X (fun _ => True) W.t.Z T [q2] (compSc eL2) (lamArgs eL2) (lamBody eL2)) tNil) σ H Q := by
  refine met_use (C0 := CK) (fld := "keyring") (tag := "keys") (sp' := fun c' => spL2 CK W.t.Z (lamF X (compSc eL2) c') q2) (.inl ⟨rfl, rfl, rfl⟩) m hw hs hcl (fun f c' => by rw [hq2]; exact cal_L2 (q := X.env.qual ++ "<lambda>") m.tb FC AC) (fun f c' H4 M x4 w4 Q' E he => ?_) k
  obtain ⟨T', hc, hz, hp, ht⟩ := M.code
  obtain ⟨p0, e0⟩ := hp (by simp)
  have off : ∀ z, z ∈ W.t.Z → z ≠ T' := fun z h y => hz (y ▸ h)
  refine ⟨v, d, T', G, by simp [hσ], rfl, x4.gh, dv, fun a ps e => (hcl _ _ e).2.2 ps rfl, sk, bk, hc, ⟨p0, e0⟩, w4.zs, ht, fun H1 stay dom tab dx H' h1 h2 h3 => ?_⟩
  have kp : ∀ a o, a ≠ T' → H4 a = some o → H' a = some o := fun a o n e => h3 _ _ (stay a o n e)
  have nt : ∀ a o, H4 a = some o → (∀ ps, o ≠ .tbl ps) → H' a = some o := fun a o e z => kp a o (fun y => by rw [y, e0] at e; exact z p0 (Option.some.inj e).symm) e
  refine he dx H' ⟨fun a o e q => nt a o e q.2.2, fun a e => dom a (h3.free e), Same.refl _, fun a o e => nt a o (x4.gh _ _ e) (hcl _ _ e).2.2, fun _ h => .inl h, hcl⟩ ?_ h2
  obtain ⟨ne, ⟨cells, pend, acc, cnt, k1, k2, r⟩, tb, tn⟩ := w4
  refine ⟨ne, ⟨cells, pend, acc, cnt, nt _ _ k1 (fun _ z => nomatch z), nt _ _ k2 (fun _ z => nomatch z), r⟩, fun p hp => ?_, fun p hp => ?_⟩
  · have pZ : p.1 ∈ W.t.Z := List.mem_append_left _ (List.mem_map.mpr ⟨p, hp, rfl⟩)
    obtain ⟨⟨ps, x⟩, y⟩ := tb p hp
    refine ⟨⟨ps, kp _ _ (off _ pZ) x⟩, ?_⟩
    by_cases e : p.1 = T
    · have e2 := m.one p hp e
      rw [e2] at y ⊢
      exact TabX.but2 (off _ pZ) kp (tab.up h3) ⟨p0, e0⟩ y
    · obtain ⟨q, e2⟩ := hone p hp e
      rw [e2] at y ⊢
      exact TabX.but1 (off _ pZ) kp ⟨p0, e0⟩ y
  · have pZ : p.1 ∈ W.t.Z := List.mem_append_right _ (List.mem_map.mpr ⟨p, hp, rfl⟩)
    obtain ⟨ps, h1, h2, h3'⟩ := tn p hp
    refine ⟨ps, kp _ _ (off _ pZ) h1, h2, fun pos cv hc => ?_⟩
    obtain ⟨c2, e1, e2⟩ := h3' pos cv hc
    exact ⟨c2, e1, nt _ _ e2 codeO_ne⟩
end
end
end K48
set_option Elab.async false
set_option linter.all false
set_option maxRecDepth 100000
set_option maxHeartbeats 4000000
/-! M48g: the wrong things that the law hands in -/
namespace K48
open PySem PySem.Spec PyProof.Rows L2 PD StX RZ
def shB (n : Nat) (ds : List PyData) : Bool := ds.all fun x => x.canLay0 && decide (x.depth ≤ n)
theorem sh_by {n : Nat} {ds : List PyData} (h : shB n ds = true) : ShL n ds := fun d hd => by
  have q := List.all_eq_true.mp h d hd
  simp only [Bool.and_eq_true, decide_eq_true_eq] at q
  exact q
def smallKB (d : PyData) : Bool := shB 10 (keysD d) && (decide ((keysD d).length ≤ 1000) && (decide ((itemsD d).length ≤ 1000) && (itemsD d).all fun o => decide ((itemsD o).length ≤ 1000)))
theorem smallK_by {d : PyData} (h : smallKB d = true) : SmallK d := by
  simp only [smallKB, Bool.and_eq_true, decide_eq_true_eq, List.all_eq_true] at h
  exact ⟨sh_by h.1, h.2.1, h.2.2.1, h.2.2.2⟩
def smallLB (d : PyData) : Bool := decide ((itemsD d).length ≤ 1000) && (itemsD d).all smallKB
theorem smallL_by {d : PyData} (h : smallLB d = true) : SmallL d := by
  simp only [smallLB, Bool.and_eq_true, decide_eq_true_eq, List.all_eq_true] at h
  exact ⟨h.1, fun l hl => smallK_by (h.2 l hl)⟩
def relB : Nat → PyData → Bool
  | _, .dict [] => true
  | _, .dict _ => false
  | 0, d => !isSeq d && SeqAt.shaped d
  | k + 1, d => if isSeq d then decide ((itemsD d).length ≤ 1000) && (itemsD d).all (relB k) else SeqAt.shaped d
theorem rel_by : ∀ {k : Nat} {d : PyData}, relB k d = true → Rel k d
  | 0, d, h => by
    cases d with
    | dict es =>
      cases es with
      | nil => exact .leaf rfl (fun _ => rfl) (fun z => nomatch z)
      | cons e es => simp [relB] at h
    | list ds => simp [relB, isSeq] at h
    | tuple ds => simp [relB, isSeq] at h
    | _ => exact .leaf rfl (fun z => nomatch z) fun _ => by simpa [relB, isSeq] using h
  | k + 1, d, h => by
    cases d with
    | dict es =>
      cases es with
      | nil => exact .leaf rfl (fun _ => rfl) (fun z => nomatch z)
      | cons e es => simp [relB] at h
    | list ds =>
      simp only [relB, isSeq, if_true, Bool.and_eq_true, decide_eq_true_eq, List.all_eq_true] at h
      exact .seq rfl h.1 fun x hx => rel_by (h.2 x hx)
    | tuple ds =>
      simp only [relB, isSeq, if_true, Bool.and_eq_true, decide_eq_true_eq, List.all_eq_true] at h
      exact .seq rfl h.1 fun x hx => rel_by (h.2 x hx)
    | _ => exact .leaf rfl (fun z => nomatch z) fun _ => by simpa [relB, isSeq] using h
def twice (ts : List PyData) (o : PyData) : PyData := .list (if ts.isEmpty = true then [o] else ts ++ ts)
def odds0 : List PyData := [.none, .int 5, .str "ab", .dict [], .list [.int 5], .list [.none], .list [.str "a", .tuple [.str "b"]], .list [.tuple [.str "a", .int 5]], .list [.list [.str "a"], .str "b"]]
def oddsK (ts : List PyData) : List PyData := odds0 ++ [twice ts (.bool true)]
def odds1 : List PyData := [.none, .int 5, .str "ab", .dict [], .list [.int 5], .list [.none], .list [.str "a"]]
def noneT : PyData := .str "none of them"
def oddsL (ts : List PyData) : List PyData := odds1 ++ [.list [.list ts, .list [noneT]], .list [twice ts (.int 5)]]
theorem enumN_at : ∀ {k i : Nat} {ds : List PyData} {d : PyData}, ds[i]? = some d → (k + i, d) ∈ enumN k ds
  | _, _, [], _, h => by simp at h
  | k, 0, e :: ds, d, h => by
    simp at h
    subst h
    rw [enumN]
    exact List.mem_cons_self ..
  | k, i + 1, e :: ds, d, h => by
    rw [enumN]
    have := enumN_at (k := k + 1) (i := i) (ds := ds) (d := d) (by simpa using h)
    rw [show k + (i + 1) = k + 1 + i from by omega]
    exact List.mem_cons_of_mem _ this
section
variable {ts : List PyData}
theorem twice_unlike (T : Thgs ts) (h : ts.isEmpty = false) : unlikeD (ts ++ ts) = false := by
  cases ts with
  | nil => simp at h
  | cons a l =>
    cases q : unlikeD (a :: l ++ a :: l) with
    | false => rfl
    | true =>
      unfold unlikeD at q
      have hm := enumN_at (k := 0) (i := (a :: l).length) (ds := a :: l ++ a :: l) (d := a) (by rw [List.getElem?_append_right (Nat.le_refl _)]; simp)
      have := List.all_eq_true.mp q _ hm
      rw [Nat.zero_add] at this
      have e : (a :: l ++ a :: l).take (a :: l).length = a :: l := List.take_left' rfl
      simp only [e] at this
      rw [(T.fam.has (fun _ => id) (List.mem_cons_self ..)).mpr (List.mem_cons_self ..)] at this
      cases this
theorem map_kept {l : List PyData} (h : ∀ x ∈ l, thgD x) : l.map keptD = l := by
  induction l with
  | nil => rfl
  | cons a l ih => rw [List.map_cons, kept_thg (h a (List.mem_cons_self ..)), ih fun x hx => h x (List.mem_cons_of_mem _ hx)]
theorem app_mem {x : PyData} (h : x ∈ ts ++ ts) : x ∈ ts := (List.mem_append.mp h).elim id id
theorem twice_keys (T : Thgs ts) {o : PyData} (h : ts.isEmpty = false) : keysD (twice ts o) = ts ++ ts := by
  unfold twice
  rw [if_neg (by rw [h]; simp)]
  show (ts ++ ts).map keptD = ts ++ ts
  exact map_kept fun x hx => T.fam.thg x (app_mem hx)
theorem twice_small (T : Thgs ts) {o : PyData} (ho : smallKB (.list [o]) = true) : SmallK (twice ts o) := by
  cases h : ts.isEmpty with
  | true => unfold twice; rw [if_pos h]; exact smallK_by ho
  | false =>
    have t6 := T.fam.few
    have ei : itemsD (twice ts o) = ts ++ ts := by unfold twice; rw [if_neg (by rw [h]; simp)]; rfl
    refine ⟨?_, ?_, ?_, fun x hx => ?_⟩
    · rw [twice_keys T h]
      exact fun d hd => (T.fam.kin.shL d (app_mem hd)).mono (by decide)
    · rw [twice_keys T h, List.length_append]; omega
    · rw [ei, List.length_append]; omega
    · rw [ei] at hx
      exact Nat.le_trans (T.few x (app_mem hx)) (by decide)
theorem twice_rel (T : Thgs ts) {o : PyData} (ho : relB 2 (.list [o]) = true) : Rel 2 (twice ts o) := by
  cases h : ts.isEmpty with
  | true => unfold twice; rw [if_pos h]; exact rel_by ho
  | false =>
    unfold twice
    rw [if_neg (by rw [h]; simp)]
    have t6 := T.fam.few
    exact rel_list (fun x hx => rel_thg (T.fam.thg x (app_mem hx)) (T.few x (app_mem hx)) (T.fam.kin.2 x (app_mem hx)).2) (by rw [List.length_append]; omega)
theorem oddsK_is (T : Thgs ts) : ∀ d ∈ oddsK ts, SmallK d ∧ badK d = true ∧ Rel 2 d := fun d hd => by
  rcases List.mem_append.mp hd with h | h
  · have q : odds0.all (fun d => smallKB d && (badK d && relB 2 d)) = true := by decide +kernel
    have q := List.all_eq_true.mp q d h
    simp only [Bool.and_eq_true] at q
    exact ⟨smallK_by q.1, q.2.1, rel_by q.2.2⟩
  · simp only [List.mem_singleton] at h
    subst h
    refine ⟨twice_small T (by decide +kernel), ?_, twice_rel T (by decide +kernel)⟩
    cases h : ts.isEmpty with
    | true => unfold twice; rw [if_pos h]; decide +kernel
    | false =>
      unfold badK
      rw [twice_keys T h, twice_unlike T h]
      simp
theorem none_of_them (h : Things ts) : ∀ l : List PyData, l ⊆ ts → hasD l noneT = false := by
  obtain ⟨F, ys, j, hF, hp, hj, rfl⟩ := h
  intro l hl
  unfold hasD
  rw [List.any_eq_false]
  intro z hz
  have zF : z ∈ F := hp.mem_iff.mp (List.mem_of_mem_take (hl hz))
  have q : ∀ F, IsFam F → F.all (fun z => !PyData.eqv z noneT) = true := by
    rintro F (rfl | rfl | rfl) <;> decide +kernel
  have := List.all_eq_true.mp (q F hF) z zF
  simpa using this
theorem hasNone (T : Thgs ts) : hasD (sortD ts) .none = false := none_of T.sort.fam
/-- lots, one of which is none of the things -/
theorem badL_of {ts : List PyData} {d : PyData} (h : isSeq d = false ∨ ∃ l ∈ itemsD d, lotOk ts (keysD l) = false) : badL ts d = true := by
  unfold badL
  rcases h with h | ⟨l, hl, h⟩
  · rw [h]; rfl
  · have : ((itemsD d).map keysD).all (lotOk ts) = false := by
      rw [List.all_eq_false]
      exact ⟨keysD l, List.mem_map.mpr ⟨l, hl, rfl⟩, by rw [h]; simp⟩
    rw [this]; simp
theorem lotOk_none {ks : List PyData} (T : Thgs ts) (h : PyData.none ∈ ks) : lotOk (sortD ts) ks = false := by
  unfold lotOk
  have : (ks.all fun o => hasD (sortD ts) o) = false := by
    rw [List.all_eq_false]
    exact ⟨.none, h, by rw [hasNone T]; simp⟩
  rw [this, Bool.and_false]
theorem oddsL_is (hT : Things ts) (T : Thgs ts) : ∀ d ∈ oddsL ts, SmallL d ∧ badL (sortD ts) d = true ∧ Rel 3 d := fun d hd => by
  have t6 := T.fam.few
  rcases List.mem_append.mp hd with h | h
  · have q : odds1.all (fun d => smallLB d && (relB 3 d && (!isSeq d || (itemsD d).any fun l => (keysD l).any fun x => match x with | .none => true | _ => false))) = true := by decide +kernel
    have q := List.all_eq_true.mp q d h
    simp only [Bool.and_eq_true, Bool.or_eq_true, Bool.not_eq_true', List.any_eq_true] at q
    refine ⟨smallL_by q.1, badL_of ?_, rel_by q.2.1⟩
    rcases q.2.2 with z | ⟨l, hl, x, hx, z⟩
    · exact .inl z
    · refine .inr ⟨l, hl, lotOk_none T ?_⟩
      cases x with
      | none => exact hx
      | _ => cases z
  · simp only [List.mem_cons, List.not_mem_nil, or_false] at h
    rcases h with rfl | rfl
    · refine ⟨⟨by simp [itemsD], fun l hl => ?_⟩, badL_of (.inr ⟨.list [noneT], by simp [itemsD], ?_⟩), rel_list (fun x hx => ?_) (by simp)⟩
      · simp only [itemsD, List.mem_cons, List.not_mem_nil, or_false] at hl
        rcases hl with rfl | rfl
        · exact (ksays_self T).small T
        · exact smallK_by (by decide +kernel)
      · have e : keysD (.list [noneT]) = [noneT] := by rfl
        rw [e]
        unfold lotOk
        have : ([noneT].all fun o => hasD (sortD ts) o) = false := by
          rw [List.all_eq_false]
          exact ⟨noneT, by simp, by rw [none_of_them hT _ fun x hx => sortD_mem.mp hx]; simp⟩
        rw [this, Bool.and_false]
      · simp only [List.mem_cons, List.not_mem_nil, or_false] at hx
        rcases hx with rfl | rfl
        · exact T.rel (fun _ => id) (by omega)
        · exact rel_by (by decide +kernel)
    · refine ⟨⟨by simp [itemsD], fun l hl => ?_⟩, badL_of (.inr ⟨twice ts (.int 5), by simp [itemsD], ?_⟩), rel_list (fun x hx => ?_) (by simp)⟩
      · simp only [itemsD, List.mem_cons, List.not_mem_nil, or_false] at hl
        subst hl
        exact twice_small T (by decide +kernel)
      · cases h : ts.isEmpty with
        | true =>
          refine lotOk_none T ?_
          unfold twice
          rw [if_pos h]
          show PyData.none ∈ [PyData.none]
          simp
        | false =>
          unfold lotOk
          rw [twice_keys T h, twice_unlike T h]
          rfl
      · simp only [List.mem_cons, List.not_mem_nil, or_false] at hx
        subst hx
        exact twice_rel T (by decide +kernel)
end
end K48
set_option Elab.async false
set_option linter.all false
set_option maxRecDepth 100000
set_option maxHeartbeats 8000000
/-! K48v: _law_refused_right -/
namespace K48
open PySem PySem.Spec PyProof.Rows L2 PD StX RZ NdefX LamX
section
variable {P : Program} {w : World} {K : PySem.W.Frag} {mg : Str → Option Value} {base : Heap} {G H G' H' : Hp}
abbrev nRef : List Str := ["_law_things_here", "_law_odds", "_law_odd", "_law_found"]
theorem scRef : FnScope nRef ["_law_things_here"] (defScope sRef) := ⟨rfl, rfl, rfl, by decide +kernel, rfl, by decide +kernel, by decide +kernel⟩
abbrev q1Ref : Str := "_law_refused_right" ++ ".<locals>." ++ "<lambda>"
abbrev q2Ref : Str := q1Ref ++ ".<locals>." ++ "<lambda>"
theorem own_ref {X : Cx} {sc : Scope} {fr : List Str} {js : List Nat} (h1 : ndefB (defScope sRef) sc fr = true) (h2 : fr.all (fun y => sc.names.contains (y, NameKind.free)) = true) (h3 : js.map (fun j => nRef[j]?) = fr.map some) (hN : X.N = nRef := by rfl) (hS : X.env.scope = defScope sRef := by rfl) (hfn : ∀ y, X.fn y = true := by intro _; rfl) : Own X (cloFrom X.env.cells sc.names []) fr js :=
  own_made (by rw [hS]; exact ndef_free (fr := fr) h1) (fun y hy => by have := List.all_eq_true.mp h2 y hy; simpa using this) (by rw [hN]; exact h3) hfn
theorem spm_len {CK CL : Addr} {k : Nat} : ∀ vs H Q E, spMet P w K mg base CK CL k vs H Q E → vs.length = 1 := by
  rintro vs H Q E ⟨f, sp, rfl, _⟩; rfl
def prRef (ds : List PyData) : Prop := ∃ ts, ds = [.list ts] ∧ Things ts ∧ Thgs ts
theorem RR2_rep2 {d : PyData} : RR2 rRep (.list [d]) (.int 2) (.list [d, d]) := fun x y G H Q hs h1 h2 k => by
  cases h1 with
  | lst ha hall =>
    cases h2
    obtain ⟨v, rfl, dv⟩ := hall.one
    refine ⟨_, 2, [v], rfl, rfl, hs _ _ ha, by decide, by decide, by show 2 ≤ sizeLine; rw [sizeLine_eq]; decide, fun p hp => k _ _ _ (.new hs hp) (.lst upd_same ?_)⟩
    have dv := dv.up (same_new (o := .lst (List.replicate (2 : Int).toNat [v]).flatten) (hs.free hp))
    exact .cons dv (.cons dv .nil)
theorem WN_tup {W : Wl} {tl : TE} {σ : L2.St} {c : Nat} {D : PyData → Prop} {DL : List PyData → Prop} (h : PN W tl σ G c D) (hD : ∀ d, D d → ∃ ds, d = .tuple ds ∧ DL ds) : WN W (iTup K tl) σ G c DL := fun H n R hs cl hw hl k => h H n _ hs cl hw hl fun d v G' H' hd x hw' dv => by
  obtain ⟨ds, rfl, q⟩ := hD d hd
  cases dv with
  | tup ha hd => exact ⟨_, rfl, ⟨_, SqT.of (x.gh _ _ ha)⟩, k ds _ G' H' q x hw' (DW_tup ha hd)⟩
theorem fn_refused {t : Tb} {CK CL C c T : Addr} (D : DfC K mg "_law_refused_right" sRef c) (M : MkT t base mg c T [q1Ref, q2Ref]) (hone : ∀ p ∈ t.T, p.1 ≠ T → ∃ q, p.2 = [q])
    (FC : FnK P w K mg base (L2.CX P w) "charted" 7 2 ["keys", "ask"] (fun l => swap2 l) (spCharted P w K mg base CK C 2)) (AC : AskC P w K mg base C)
    (FM : FnK P w K mg base (L2.CX P w) "meeting" 6 2 ["lots", "keys"] (fun l => swap2 l) (spMeeting CK CL)) (FMet : Fn P w K mg base CX0 "_law_met" 9 1 (spMet P w K mg base CK CL 8))
    (FS : Fn P w K mg base CX0 "_law_same" 5 2 (spP (DSame 4))) : Fn P w K mg base CX0 "_law_refused_right" 10 1 (spW t (fun _ => 0) prRef DTrue) := by
  refine D.fn scRef (by rintro vs H Q E ⟨W, G, ds, n, ht, hG, hcl, hw, hl, hd, ⟨ts, rfl, _⟩, k⟩; have := hd.len; simpa using this) rfl (fun _ _ _ _ _ _ us hl => match us, hl with | [_], _ => rfl) fun f A outer s H vs Q E hr hsp => ?_
  obtain ⟨W, G, ds, n, rfl, hG, hcl, hw, hl, hd, ⟨ts, rfl, hTh, TH⟩, kq⟩ := hsp
  obtain ⟨u, rfl, du⟩ := hd.one
  have hu := hr.u65
  have hsz : sizeLine = 16777216 := sizeLine_eq
  refine ⟨_, pss_cons (ps_set (i := 1) scRef.nd rfl (.inl rfl) (pe_lst (pa_cons pe_non (pa_cons pe_int (pa_cons pe_str (pa_cons pe_dnewK (pa_cons (pe_lst (pa_cons pe_int pa_nil)) (pa_cons (pe_lst (pa_cons pe_non pa_nil)) (pa_cons (pe_lst (pa_cons pe_str (pa_cons (pe_tup (pa_cons pe_str pa_nil)) pa_nil)))
      (pa_cons (pe_lst (pa_cons (pe_tup (pa_cons pe_str (pa_cons pe_int pa_nil))) pa_nil)) (pa_cons (pe_lst (pa_cons (pe_lst (pa_cons pe_str pa_nil)) (pa_cons pe_str pa_nil))) (pa_cons (pe_ifExp (xt_ne (K := K) hu (pv 0) (pe_lst pa_nil)) (pe_op op_cat (pv 0) (pv 0)) (pe_lst (pa_cons pe_bl pa_nil))) pa_nil))))))))))))
    (pss_cons (ps_for PassesOwn.never rfl (pi_list (pv 1)) (pg_name (i := 2) scRef.nd rfl (.inr rfl))
      (pss_cons (ps_set (i := 3) scRef.nd rfl (.inl rfl) (pe_lst (pa_cons (pe_fnT (own_ref (sc := compSc eL1) (fr := ["_law_odd"]) (js := [2]) (by decide +kernel) (by decide +kernel) rfl) FMet hr (fun s H e s' h => h) (pa_cons (pe_lambB (Z := W.t.Z) (T := T) (qs := [q2Ref]) M.tb rfl (ndef_free (sc := defScope sRef) (nsc := compSc eL1) (fr := ["_law_odd"]) (by decide +kernel)) rfl) pa_nil) spm_len) pa_nil)))
      (pss_cons (xs_append (pv 3) (pe_fnT (own_ref (sc := compSc eL2) (fr := ["_law_odd"]) (js := [2]) (by decide +kernel) (by decide +kernel) rfl) FMet hr (fun s H e s' h => h) (pa_cons (pe_lambB (Z := W.t.Z) (T := T) (qs := [q2Ref]) M.tb rfl (ndef_free (sc := defScope sRef) (nsc := compSc eL2) (fr := ["_law_odd"]) (by decide +kernel)) rfl) pa_nil) spm_len))
      (pss_one (ps_if (pt_not (pt_val (pe_fn FS (hr.mono (by decide)) (by rfl) pass0 (pa_cons (pv 3) (pa_cons (pe_op op_rep (pe_lst (pa_cons (pe_tup (pa_cons pe_str (pa_cons (pv 2) pa_nil))) pa_nil)) pe_int) pa_nil))))) (pss_one (ps_ret pe_bl)) pss_nil)))))
    (pss_cons (ps_for PassesOwn.never rfl (pi_tup (pe_tup (pa_cons pe_non (pa_cons pe_int (pa_cons pe_str (pa_cons pe_dnewK (pa_cons (pe_lst (pa_cons pe_int pa_nil)) (pa_cons (pe_lst (pa_cons pe_non pa_nil)) (pa_cons (pe_lst (pa_cons pe_str pa_nil))
        (pa_cons (pe_lst (pa_cons (pv 0) (pa_cons (pe_lst (pa_cons pe_str pa_nil)) pa_nil))) (pa_cons (pe_lst (pa_cons (pe_ifExp (xt_ne (K := K) hu (pv 0) (pe_lst pa_nil)) (pe_op op_cat (pv 0) (pv 0)) (pe_lst (pa_cons pe_int pa_nil))) pa_nil)) pa_nil))))))))))) (pg_name (i := 2) scRef.nd rfl (.inr rfl))
      (pss_one (ps_if (pt_not (pt_val (pe_fn FS (hr.mono (by decide)) (by rfl) pass0 (pa_cons (pe_fnT (own_ref (sc := compSc eL4) (fr := ["_law_things_here", "_law_odd"]) (js := [0, 2]) (by decide +kernel) (by decide +kernel) rfl) FMet hr (fun s H e s' h => h) (pa_cons (pe_lambB (Z := W.t.Z) (T := T) (qs := [q2Ref]) M.tb rfl (ndef_free (sc := defScope sRef) (nsc := compSc eL4) (fr := ["_law_things_here", "_law_odd"]) (by decide +kernel)) rfl) pa_nil) spm_len)
        (pa_cons (pe_tup (pa_cons pe_str (pa_cons (pv 2) pa_nil))) pa_nil))))) (pss_one (ps_ret pe_bl)) pss_nil)))
    (pss_one (ps_ret pe_bl)))), ?_⟩
  have hl : n + 0 ≤ lim := hl
  have t6 := TH.fam.few
  have dic : ∀ {σ : L2.St} {G : Hp}, PR tDNewK σ G (.dict []) := fun H Q hs k p hp => k (.ref p) _ _ (.new hs hp) (.dict upd_same)
  have tw : ∀ {σ : L2.St} {G : Hp} {o : PyData} {te : TE}, σ[0]? = some (some u) → Dq G u (.list ts) → PR te σ G o → PR (tIf (tTest (tOp (rNeD K) (tVar 0) (tLst tNil))) (tOp rCat (tVar 0) (tVar 0)) (tLst (tCons te tNil))) σ G (twice ts o) := fun h0 du ho => by
    refine PR_if (TR_test (PR_op (RR2_ne ((TH.fam.kin.shL.list).shaped (by decide)) (by decide)) (PR_var h0 du) (PR_lst PRA_nil (by show 0 ≤ sizeLine; omega)))) (fun hb => ?_) fun hb => ?_
    · refine PR.eq (PR_op (RR2_cat (by omega)) (PR_var h0 du) (PR_var h0 du)) ?_
      unfold twice
      rw [if_neg]
      intro z
      rw [List.isEmpty_iff.mp z] at hb
      simp [PyData.eqv, PyData.eqvAll] at hb
    · refine PR.eq (PR_lst (PRA_one ho) (by show 1 ≤ sizeLine; omega)) ?_
      unfold twice
      rw [if_pos]
      cases ts with
      | nil => rfl
      | cons a l => simp [PyData.eqv, PyData.eqvAll] at hb
  have sz : ∀ k : Nat, k ≤ 100 → k ≤ sizeLine := fun k h => by omega
  -- _law_odds
  refine tSetN_use (c := 0) hG hcl hw (by omega) (D := (· = .list (oddsK ts))) (PN_of (PR_lst (PRA_cons PR_non (PRA_cons PR_int (PRA_cons PR_str (PRA_cons dic (PRA_cons (PR_lst (PRA_one PR_int) (sz _ (by simp))) (PRA_cons (PR_lst (PRA_one PR_non) (sz _ (by simp))) (PRA_cons (PR_lst (PRA_two PR_str (PR_tup (PRA_one PR_str) (sz _ (by simp)))) (sz _ (by simp)))
    (PRA_cons (PR_lst (PRA_one (PR_tup (PRA_two PR_str PR_int) (sz _ (by simp)))) (sz _ (by simp))) (PRA_cons (PR_lst (PRA_two (PR_lst (PRA_one PR_str) (sz _ (by simp))) PR_str) (sz _ (by simp))) (PRA_one (tw rfl du PR_bl))))))))))) (by show 10 ≤ sizeLine; omega))) fun d1 v1 G1 H1 hd1 x1 w1 dv1 => ?_
  subst hd1
  have du_1 := du.up x1.gg
  -- for _law_odd in _law_odds
  refine tForN_use (DL := (· = oddsK ts)) x1.gh x1.cl w1 (c := 0) (by omega) (WN_list (D := (· = .list (oddsK ts))) (PN_of (PR_var (i := 1) rfl dv1)) fun d hd => ⟨_, hd, rfl⟩) fun ds J G2 H2 hds x2 w2 dw => ?_
  subst hds
  refine for_nm dw (fun i σ H3 => ∃ (G3 : Hp) (o2 o3 : Option V), σ = [some u, some v1, o2, o3] ∧ ExtW W G H G3 H3 ∧ WOk W n H3 ∧ Same G2 G3) ?_ ?_ ?_ ?_
  · exact ⟨G2, none, none, rfl, x1.trans x2, w2, Same.refl _⟩
  · rintro i σ H3 _ ⟨G3, o2, o3, rfl, x, _, s3⟩
    exact s3.trans x.gh
  · rintro i d y σ H3 H4 q1 ⟨G3, o2, o3, rfl, x3, w3, s3⟩ q2 q3
    obtain ⟨sk, bk, rl⟩ := oddsK_is TH d (List.mem_of_getElem? q1)
    obtain ⟨G4, x4, w4, dy⟩ := yldW x3.gh x3.cl w3 s3 q3
    -- _law_found = [_law_met(..)]
    refine met_L1 FM M w4 x4.gh x4.cl rfl dy sk bk fun H5 p x5 w5 hp => ⟨by show 1 ≤ sizeLine; omega, fun q hq => ?_⟩
    have e6 : Ext G4 H5 (upd G4 p (.tup [.str "keys", y])) (upd H5 p (.tup [.str "keys", y])) := .new x5.gh hp
    have x6 := e6.w x5.cl w5
    have w6 := w5.up e6.hh
    have dp : Dq (joinG G4 (upd G4 p (.tup [.str "keys", y]))) (.ref p) (.tuple [.str "keys", d]) := joinG_dq e6.gg (.tup upd_same (.cons (.str _) (.cons (dy.up e6.gg) .nil)))
    generalize joinG G4 (upd G4 p (.tup [.str "keys", y])) = G6 at x6 dp
    generalize upd H5 p (.tup [.str "keys", y]) = H6 at hq x6 w6 e6
    have g7 := (GrW.start x6.gh x6.cl).new (xs := [.ref p]) w6 hq
    have w7 := w6.up (same_new (o := .lst [.ref p]) hq)
    have dy6 := dy.up x6.gg
    -- _law_found.append(_law_met(..))
    refine ⟨_, rfl, .inl ⟨rfl, [.ref p], SqL.of upd_same⟩, met_L2 rfl FC AC M hone w7 g7.x.gh g7.x.cl rfl dy6 sk bk fun H8 p2 x8 w8 hp2 => ?_⟩
    have g8 := g7.ext w6 x8
    have oq := g8.off w6 (p := q) (by simp)
    have e8 : H8 q = some (.lst [.ref p]) := x8.hh _ _ upd_same ⟨oq.1, oq.2, fun _ z => nomatch z⟩
    have e9 : Ext G6 H8 (upd G6 p2 (.tup [.str "keys", y])) (upd H8 p2 (.tup [.str "keys", y])) := .new g8.x.gh hp2
    obtain ⟨g9, w9⟩ := g8.pure w6 w8 e9
    have dp2 : Dq (joinG G6 (upd G6 p2 (.tup [.str "keys", y]))) (.ref p2) (.tuple [.str "keys", d]) := joinG_dq e9.gg (.tup upd_same (.cons (.str _) (.cons (dy6.up e9.gg) .nil)))
    have s69 : Same G6 (joinG G6 (upd G6 p2 (.tup [.str "keys", y]))) := joinG_same
    have eq9 := e9.hh _ _ e8
    generalize joinG G6 (upd G6 p2 (.tup [.str "keys", y])) = G9 at g9 dp2 s69
    generalize upd H8 p2 (.tup [.str "keys", y]) = H9 at g9 w9 eq9
    refine ⟨q, [.ref p], .ref p2, rfl, rfl, eq9, by show 1 < sizeLine; omega, ?_⟩
    have g10 := g9.put (xs := [.ref p] ++ [.ref p2]) (List.mem_cons_self ..)
    have w10 := g9.wput (xs := [.ref p] ++ [.ref p2]) w6 w9 (List.mem_cons_self ..)
    obtain ⟨g11, s11⟩ := g10.freeze w6 upd_same
    have dq : Dq (upd G9 q (.lst ([.ref p] ++ [.ref p2]))) (.ref q) (.list [.tuple [.str "keys", d], .tuple [.str "keys", d]]) := .lst upd_same (.cons ((dp.up s69).up s11) (.cons (dp2.up s11) .nil))
    have dy11 := (dy6.up s69).up s11
    generalize upd G9 q (.lst ([.ref p] ++ [.ref p2])) = G11 at g11 dq s11 dy11
    generalize upd H9 q (.lst ([.ref p] ++ [.ref p2])) = H11 at g11 w10
    have rel4 : Rel 4 (.list [.tuple [.str "keys", d], .tuple [.str "keys", d]]) := rel_list (fun z hz => by
      have : z = .tuple [.str "keys", d] := by simpa using hz
      subst this
      refine rel_tuple (fun y hy => ?_) (by simp)
      simp only [List.mem_cons, List.not_mem_nil, or_false] at hy
      rcases hy with rfl | rfl
      · exact rel_by (by decide +kernel)
      · exact rl) (by simp)
    refine tIf_use (b := !true) (TR_not (TR_tB (PR_call (PRA_two (PR_var (i := 3) rfl dq) (PR_op RR2_rep2 (PR_lst (PRA_one (PR_tup (PRA_two PR_str (PR_var (i := 2) rfl dy11)) (sz _ (by simp)))) (sz _ (by simp))) PR_int)) ⟨_, rfl, rfl, rel4⟩))) g11.x.gh fun H12 e12 => iteF (nxt ?_)
    have xx := ((((x3.trans x4).trans x5).trans x6).trans g11.x).trans (extW_same g11.x.gh g11.x.cl e12)
    exact ⟨G11, some y, some (.ref q), rfl, xx, w10.up e12, ((((s3.trans x4.gg).trans x5.gg).trans x6.gg).trans s69).trans s11⟩
  · rintro σ H3 ⟨G3, o2, o3, rfl, x3, w3, s3⟩
    have du_3 := (du_1.up x2.gg).up s3
    -- for _law_odd in (..)
    refine tForN_use (DL := (· = oddsL ts)) x3.gh x3.cl w3 (c := 0) (by omega) (WN_tup (D := (· = .tuple (oddsL ts))) (PN_of (PR_tup (PRA_cons PR_non (PRA_cons PR_int (PRA_cons PR_str (PRA_cons dic (PRA_cons (PR_lst (PRA_one PR_int) (sz _ (by simp))) (PRA_cons (PR_lst (PRA_one PR_non) (sz _ (by simp))) (PRA_cons (PR_lst (PRA_one PR_str) (sz _ (by simp)))
      (PRA_cons (PR_lst (PRA_two (PR_var (i := 0) rfl du_3) (PR_lst (PRA_one PR_str) (sz _ (by simp)))) (sz _ (by simp))) (PRA_one (PR_lst (PRA_one (tw rfl du_3 PR_int)) (sz _ (by simp)))))))))))) (by show 9 ≤ sizeLine; omega))) fun d hd => ⟨_, hd, rfl⟩) fun ds J G4 H4 hds x4 w4 dw => ?_
    subst hds
    refine for_nm dw (fun i σ H5 => ∃ (G5 : Hp) (o2 o3 : Option V), σ = [some u, some v1, o2, o3] ∧ ExtW W G H G5 H5 ∧ WOk W n H5 ∧ Same G4 G5) ?_ ?_ ?_ ?_
    · exact ⟨G4, o2, o3, rfl, x3.trans x4, w4, Same.refl _⟩
    · rintro i σ H5 _ ⟨G5, o2, o3, rfl, x, _, s5⟩
      exact s5.trans x.gh
    · rintro i d y σ H5 H6 q1 ⟨G5, o2, o3, rfl, x5, w5, s5⟩ q2 q3
      obtain ⟨sk, bk, rl⟩ := oddsL_is hTh TH d (List.mem_of_getElem? q1)
      obtain ⟨G6, x6, w6, dy⟩ := yldW x5.gh x5.cl w5 s5 q3
      have du_6 := (du_3.up x4.gg).up (s5.trans x6.gg)
      refine met_L4 FM M w6 x6.gh x6.cl rfl rfl du_6 TH dy sk bk fun H7 p x7 w7 hp => ?_
      have e8 : Ext G6 H7 (upd G6 p (.tup [.str "lots", y])) (upd H7 p (.tup [.str "lots", y])) := .new x7.gh hp
      have x8 := e8.w x7.cl w7
      have w8 := w7.up e8.hh
      have dp : Dq (joinG G6 (upd G6 p (.tup [.str "lots", y]))) (.ref p) (.tuple [.str "lots", d]) := joinG_dq e8.gg (.tup upd_same (.cons (.str _) (.cons (dy.up e8.gg) .nil)))
      generalize joinG G6 (upd G6 p (.tup [.str "lots", y])) = G8 at x8 dp
      generalize upd H7 p (.tup [.str "lots", y]) = H8 at x8 w8 e8
      have dy8 := dy.up x8.gg
      have rel4 : Rel 4 (.tuple [.str "lots", d]) := rel_tuple (fun y hy => by
        simp only [List.mem_cons, List.not_mem_nil, or_false] at hy
        rcases hy with rfl | rfl
        · exact rel_by (by decide +kernel)
        · exact rl) (by simp)
      refine (PR_tup (PRA_two PR_str (PR_var (i := 2) rfl dy8)) (sz _ (by simp))) H8 _ x8.gh fun v9 G9 H9 e9 dv9 => ?_
      refine ⟨G9, [_, _], .bool true, e9.gh, .cons (dp.up e9.gg) (.cons dv9 .nil), ⟨_, rfl, rfl, rel4⟩, fun v10 G10 H10 e10 dv10 => ?_⟩
      cases dv10
      refine ⟨true, rfl, iteF (nxt ?_)⟩
      have s910 : Same H8 H10 := e9.hh.trans e10.hh
      have xx := (((x5.trans x6).trans x7).trans x8).trans (extW_same x8.gh x8.cl s910)
      exact ⟨G8, some y, o3, rfl, xx, w8.up s910, ((s5.trans x6.gg).trans x7.gg).trans x8.gg⟩
    · rintro σ H5 ⟨G5, o2, o3, rfl, x5, w5, s5⟩
      exact kq (.bool true) (.bl true) G5 H5 rfl x5 w5 (.bl true)
end
end K48
set_option Elab.async false
set_option linter.all false
set_option maxRecDepth 100000
set_option maxHeartbeats 8000000
/-! M48h: the written cases of the law -/
namespace K48
open PySem PySem.Spec PyProof.Rows L2 PD StX RZ
abbrev sa : PyData := .str "a"
abbrev sb : PyData := .str "b"
abbrev sc : PyData := .str "c"
abbrev ab3 : List PyData := [sa, sb, sc]
abbrev pairs3 : List (List PyData) := [[sa, sb], [sa, sc], [sb, sc]]
theorem fam3 : famOk ab3 = true := by decide +kernel
theorem nd3 : ab3.Pairwise fun a b => PyData.eqv a b = false := by decide +kernel
/-- three written names -/
theorem thgs3 : Thgs ab3 := by
  have at_ : ∀ x ∈ ab3, thgB x = true ∧ plainK x = true ∧ x.depth ≤ 3 ∧ noList x = true ∧ x.canLay0 = true ∧ ∀ y ∈ ab3, PySem.W.alike x y = true := fun x hx => by
    have q := List.all_eq_true.mp fam3 x hx
    simp only [Bool.and_eq_true, decide_eq_true_eq, List.all_eq_true] at q
    exact q
  have nd : ab3.Nodup := nd3.imp_of_mem fun {a b} ha hb e z => by
    subst z
    rw [(thg_eqv (thg_ofB (at_ a ha).1) (thg_ofB (at_ a ha).1)).mpr rfl] at e
    cases e
  have kin : Kin ab3 := ⟨fun d hd e he => (at_ d hd).2.2.2.2.2 e he, fun d hd => ⟨fun z => by
    have := (at_ d hd).1
    subst z
    simp [thgB] at this, (at_ d hd).2.2.2.2.1, (at_ d hd).2.2.1⟩⟩
  refine ⟨⟨nd, kin, fun x hx => thg_ofB (at_ x hx).1, by decide⟩, ⟨fun x hx => ⟨(at_ x hx).2.1, (at_ x hx).2.2.1⟩, kin, by decide⟩, fun x hx => (at_ x hx).2.2.2.1, fun x hx => ?_⟩
  simp only [List.mem_cons, List.not_mem_nil, or_false] at hx
  rcases hx with rfl | rfl | rfl <;> simp [itemsD]
theorem mem3 {l : List PyData} (h : l.all (fun x => hasD ab3 x) = true) (hs : ∀ x ∈ l, isS x = true) : l ⊆ ab3 := fun x hx => by
  have q := List.all_eq_true.mp h x hx
  have hs := hs x hx
  unfold hasD at q
  obtain ⟨z, hz, e⟩ := List.any_eq_true.mp q
  have tz := thgs3.fam.thg z hz
  cases x with
  | str s => rw [(thg_eqv tz (.inl ⟨s, rfl⟩)).mp e] at hz; exact hz
  | _ => simp [isS] at hs
theorem sortD_of {A : List PyData} (F : Fam A) {l m : List PyData} (hp : m.Perm l) (hs : m.Pairwise fun a b => leD a b = true) (sub : l ⊆ A) : sortD l = m :=
  ((sortD_perm l).trans hp.symm).eq_of_pairwise (fun a b ha hb h1 h2 => F.anti (sub (sortD_mem.mp ha)) (sub (hp.mem_iff.mp hb)) h1 h2) (sortD_sorted l) hs
theorem srt3 : ab3.Pairwise fun a b => leD a b = true := by decide +kernel
theorem sort_cab : sortD [sc, sa, sb] = ab3 := sortD_of thgs3.fam (((List.Perm.swap sc sb []).cons sa).trans (List.Perm.swap sc sa [sb])) srt3 fun x hx => by
  simp only [List.mem_cons, List.not_mem_nil, or_false] at hx ⊢
  rcases hx with h | h | h <;> simp [h]
theorem thgs_cab : Thgs [sc, sa, sb] := by
  have p : ab3.Perm [sc, sa, sb] := (sort_cab ▸ sortD_perm [sc, sa, sb])
  exact thgs3.sub (fun x hx => p.mem_iff.mpr hx) (p.nodup_iff.mp thgs3.fam.nd)
theorem once3 : onceLD pairs3 = pairs3 := by rfl
theorem great3 : ((powD ab3).filter fun s => !askD pairs3 s).filter (topD [sc, sa, sb] pairs3) = [[sa], [sb], [sc]] := by rfl
theorem sorted_id {l : List PyData} (h : l.Pairwise fun a b => leD a b = true) : sortD l = l := List.mergeSort_of_pairwise h
theorem sortedL_id {l : List (List PyData)} (h : l.Pairwise fun a b => leD (.list a) (.list b) = true) : sortLD l = l := List.mergeSort_of_pairwise h
theorem pairs_srt : pairs3.map sortD = pairs3 := by
  show [sortD [sa, sb], sortD [sa, sc], sortD [sb, sc]] = pairs3
  rw [sorted_id (by decide +kernel), sorted_id (by decide +kernel), sorted_id (by decide +kernel)]
theorem least3 : leastOfD pairs3 = pairs3 := by
  unfold leastOfD
  rw [pairs_srt, once3]
  have : (pairs3.filter fun l => !pairs3.any fun o => withinD o l && !PyData.eqv (.list o) (.list l)) = pairs3 := by rfl
  rw [this]
  exact sortedL_id (by decide +kernel)
theorem lots_ok3 : LotsOk [sc, sa, sb] pairs3 := by
  have p : ab3.Perm [sc, sa, sb] := (sort_cab ▸ sortD_perm [sc, sa, sb])
  have s : ∀ l ∈ pairs3, l.Sublist ab3 := fun l hl => by
    simp only [List.mem_cons, List.not_mem_nil, or_false] at hl
    rcases hl with rfl | rfl | rfl
    · exact ((List.nil_sublist _).cons_cons sb).cons_cons sa
    · exact (((List.nil_sublist []).cons_cons sc).cons sb).cons_cons sa
    · exact (((List.nil_sublist []).cons_cons sc).cons_cons sb).cons sa
  exact ⟨fun l hl x hx => p.mem_iff.mp ((s l hl).subset hx), fun l hl => thgs3.fam.nd.sublist (s l hl), by decide⟩
theorem great_srt : sortLD (greatD [sc, sa, sb] pairs3) = [[sa], [sb], [sc]] := by
  have p : (greatD [sc, sa, sb] pairs3).Perm [[sa], [sb], [sc]] := by
    rw [← great3]
    unfold greatD falseD
    rw [sort_cab]
    exact ((List.mergeSort_perm (powD ab3) _).filter _).filter _
  have hs : ∀ l ∈ ([[sa], [sb], [sc]] : List (List PyData)), l ⊆ ab3 := fun l hl x hx => by
    simp only [List.mem_cons, List.not_mem_nil, or_false] at hl
    rcases hl with rfl | rfl | rfl <;> simp only [List.mem_cons, List.not_mem_nil, or_false] at hx <;> simp [hx]
  exact ((sortLD_perm _).trans p).eq_of_pairwise (fun a b ha hb h1 h2 => thgs3.fam.antiL (hs a (p.mem_iff.mp (sortLD_mem.mp ha))) (hs b hb) h1 h2) (sortLD_sorted _) (by decide +kernel)
/-- more than one -/
def more1 (l : List PyData) : Bool := decide (1 < l.length)
theorem more3 : (powD ab3).all (fun l => more1 l == askD pairs3 l) = true := by decide +kernel
theorem rise3 : Rise (sortD [sc, sa, sb]) pairs3 more1 := by
  have R := rise_of thgs_cab lots_ok3
  refine ⟨R.fam, R.fine, R.can, R.sub, fun l c => ?_⟩
  have hm : l ∈ powD ab3 := by
    have q := (all_mem thgs_cab.fam).mpr (can_srt.mpr c)
    rw [sort_cab] at q
    exact (List.mergeSort_perm _ _).mem_iff.mp q
  have e := List.all_eq_true.mp more3 l hm
  rw [beq_iff_eq] at e
  rw [e]
  exact R.tell l c
theorem chart3 : ∃ qe ge n, Runs more1 (sortD [sc, sa, sb]) [] [] qe ge n ∧ chartD (sortD [sc, sa, sb]) ge = .tuple [.list (pairs3.map .list), .list ([[sa], [sb], [sc]].map .list)] := by
  obtain ⟨qe, ge, n, r, cr, _⟩ := cr_exR rise3 thgs_cab lots_ok3
  refine ⟨qe, ge, n, r, ?_⟩
  rw [cr.chart, least3, great_srt]
/-! ### the written meetings -/
theorem thgs0 : Thgs [] := thgs3.sub (by simp) (by simp)
theorem thgs1 : Thgs [sa] := thgs3.sub (by simp) (by simp)
theorem thgs2 : Thgs [sb, sa] := thgs3.sub (fun x hx => by simp only [List.mem_cons, List.not_mem_nil, or_false] at hx; rcases hx with h | h <;> simp [h]) (by
  have := thgs3.fam.nd
  simp only [List.nodup_cons, List.mem_cons, List.not_mem_nil, or_false, not_or, List.nodup_nil, not_false_eq_true, and_true] at this ⊢
  exact fun z => this.1.1 z.symm)
theorem meet0 : MeetIs (.list []) (.list []) [[]] := by
  have q := meet_is (ts := []) (ls := []) thgs0 ⟨by simp, by simp, by simp⟩ (ksays_self thgs0) (lsays_self thgs0 ⟨by simp, by simp, by simp⟩)
  have e : sortLD (meetD (([] : List (List PyData)).map sortD)) = [[]] := sortedL_id (l := [[]]) (by simp)
  rw [e] at q
  exact q
theorem meet1 : MeetIs (.list [sa]) (.list []) [[]] := by
  have q := meet_is (ts := [sa]) (ls := []) thgs1 ⟨by simp, by simp, by simp⟩ (ksays_self thgs1) (lsays_self thgs1 ⟨by simp, by simp, by simp⟩)
  have e : sortLD (meetD (([] : List (List PyData)).map sortD)) = [[]] := sortedL_id (l := [[]]) (by simp)
  rw [e] at q
  exact q
theorem meet2 : MeetIs (.list [sa]) (.list [.list []]) [] := by
  have L : LotsOk [sa] [[]] := ⟨by simp, by simp, by simp⟩
  have q := meet_is (ts := [sa]) (ls := [[]]) thgs1 L (ksays_self thgs1) (lsays_self thgs1 L)
  have e : sortLD (meetD (([[]] : List (List PyData)).map sortD)) = [] := by
    show sortLD (meetD [sortD []]) = _
    rw [sorted_id (by simp)]
    show sortLD (leastD ([[]].flatMap (meetOne []))) = _
    have e1 : ([[]] : List (List PyData)).flatMap (meetOne []) = [] := by rfl
    have e2 : leastD [] = [] := by
      unfold leastD sortLen
      rw [List.mergeSort_of_pairwise (by simp)]
      rfl
    rw [e1, e2]
    exact sortedL_id (l := []) (by simp)
  rw [e] at q
  exact q
theorem meet3 : MeetIs (.list [sb, sa]) (.list [.list [sa, sb]]) [[sa], [sb]] := by
  have L : LotsOk [sb, sa] [[sa, sb]] := ⟨fun l hl x hx => by
    simp only [List.mem_cons, List.not_mem_nil, or_false] at hl
    subst hl
    simp only [List.mem_cons, List.not_mem_nil, or_false] at hx ⊢
    exact hx.symm, fun l hl => by
    simp only [List.mem_cons, List.not_mem_nil, or_false] at hl
    subst hl
    have := thgs2.fam.nd
    simp only [List.nodup_cons, List.mem_cons, List.not_mem_nil, or_false, List.nodup_nil, not_false_eq_true, and_true] at this ⊢
    exact fun z => this z.symm, by simp⟩
  have q := meet_is (ts := [sb, sa]) (ls := [[sa, sb]]) thgs2 L (ksays_self thgs2) (lsays_self thgs2 L)
  have e : sortLD (meetD ([[sa, sb]].map sortD)) = [[sa], [sb]] := by
    show sortLD (meetD [sortD [sa, sb]]) = _
    rw [sorted_id (by decide +kernel)]
    show sortLD (leastD ([[]].flatMap (meetOne [sa, sb]))) = _
    have e1 : ([[]] : List (List PyData)).flatMap (meetOne [sa, sb]) = [sortD [sa], sortD [sb]] := by rfl
    have e2 : leastD [[sa], [sb]] = [[sa], [sb]] := by
      unfold leastD sortLen
      rw [List.mergeSort_of_pairwise (by decide)]
      rfl
    rw [e1, sorted_id (by simp), sorted_id (by simp), e2]
    exact sortedL_id (by decide +kernel)
  rw [e] at q
  exact q
end K48
set_option Elab.async false
set_option linter.all false
set_option maxRecDepth 100000
set_option maxHeartbeats 8000000
set_option pp.maxSteps 1500
/-! K48w: law -/
namespace K48
open PySem PySem.Spec PyProof.Rows L2 PD StX RZ NdefX LamX
section
variable {P : Program} {w : World} {K : PySem.W.Frag} {mg : Str → Option Value} {base : Heap} {G H G' H' : Hp}
abbrev sLaw : Stmt := top 38
abbrev nLaw : List Str := ["_law_script", "_law_stream_here", "_law_turn", "_law_things_here", "_law_lots_here", "_law_found", "_law_pairs"]
theorem scLaw : FnScope nLaw ["_law_script"] (defScope sLaw) := ⟨rfl, rfl, rfl, by decide +kernel, rfl, by decide +kernel, by decide +kernel⟩
abbrev qLaw : Str := "law" ++ ".<locals>." ++ "<lambda>"
abbrev eL5 : Expr := subE 1 (valOf (stAt (defBody sLaw) 4))
theorem scL5 : NScope ["_law_some"] ["_law_some"] [] (compSc eL5) := nscope_by (by decide +kernel)
def spMore : List (Option V) → Sp := fun _ vs H Q _ => ∃ l ys, vs = [.ref l] ∧ H l = some (.lst ys) ∧ Q (.bl (decide (1 < ys.length))) H
theorem cal_L5 {f c : Addr} {q : Str} {cl : List (Str × Addr)} (m1 : mg "len" = none) : Cal P w K mg base 1 f 1 (spL f (FLam q (compSc eL5) cl c) (lamArgs eL5) (lamBody eL5) [] spMore) := by
  refine lam_cal (k := 0) (N := ["_law_some"]) (ps := ["_law_some"]) scL5 (fun pm ctv us hl => match us, hl with | [_], _ => rfl) fun A outer s H vs ws Q E hr hw hv hsp => ?_
  obtain ⟨l, ys, rfl, hl, k⟩ := hsp
  have hws : ws = [] := List.length_eq_zero_iff.mp hw
  subst hws
  refine ⟨_, pe_cmpR op_gt (xe_len (K := K) m1 (pv 0)) pe_int (nomark _), ?_⟩
  refine ⟨_, rfl, l, ys, rfl, .inl (SqL.of hl), _, _, rfl, rfl, ?_⟩
  have e : decide ((1 : Int) < (ys.length : Nat)) = decide (1 < ys.length) := by
    by_cases h : 1 < ys.length
    · rw [decide_eq_true h, decide_eq_true (by omega)]
    · rw [decide_eq_false h, decide_eq_false (by omega)]
  show Q (.bl (decide ((1 : Int) < (ys.length : Nat)))) H
  rw [e]
  exact k
theorem TN_or {W : Wl} {t1 t2 : TT} {σ : L2.St} {c1 c2 : Nat} (h1 : TN W t1 σ G c1 (· = false)) (h2 : TN W t2 σ G c2 (· = false)) : TN W (tOr t1 t2) σ G (c1 + c2) (· = false) := fun H n Q hs cl hw hl k =>
  h1 H n _ hs cl hw (by omega) fun b G1 H1 hb x w1 => by
    subst hb
    exact iteF ((h2.mono x.gg) H1 (n + c1) _ x.gh x.cl w1 (by omega) fun b G2 H2 hb y w2 => k b G2 H2 hb (x.trans y) (by rw [Nat.add_assoc] at w2; exact w2))
/-- a def of the top by its body, its code object at c -/
theorem ok_of {x : Str} {st : Stmt} {f c : Addr} {fd : FuncData} {k : Nat} {N ps : List Str} {sp : Sp} (F : Fun K x x st f fd) (h3 : fd.code = .ref c) (S : FnScope N ps (defScope st)) (len : ∀ vs H Q E, sp vs H Q E → vs.length = ps.length)
    (hbody : ∀ (A : Around) (outer : List Env) (s : Shared) (H : Hp) (vs : List V) (Q : VK) (E : XK), Room k (A.deeper (envOfC x (defScope st) s.heap.objs.size f (.ref c))) → sp vs H Q E →
      ∃ t, PSs (cxOf CX0 P w K mg base N x (defScope st) f (.ref c) A outer s H E).nox (defBody st) t ∧ t { nx := fun _ H' => Q .non H', rt := Q } (start N vs) H) : FnOk P w K mg base CX0 (k + 1) f fd ps sp := by
  obtain ⟨oc, od, kV, doc, pm, an, cdv, ct, osl, rfl, lk, hcd⟩ := F.ex
  obtain rfl : cdv = .ref c := h3
  refine fn_of lk hcd S len fun A outer s H vs Q E hr hsp => ?_
  obtain ⟨t, ht, q⟩ := hbody A outer s H vs Q E hr hsp
  exact ⟨t, ht.nox, q⟩
theorem tAsgCall_use {te : TE} {t : TA} {sp : Sp} {E : XK} {i : Nat} {De : Ends} {σ : L2.St} (h : te σ H fun v H1 => t σ H1 fun vs H2 => sp ((v :: vs) ++ []) H2 (fun v' H3 => De.nx (σ.set i (some v')) H3) E) : tAsg (tCall sp [] E (tCons te t)) (gName i) De σ H := h
theorem tSeq_use {a b : TS} {De : Ends} {σ : L2.St} (h : a { De with nx := b De } σ H) : tSeq a b De σ H := h
theorem tCons1_use {te : TE} {σ : L2.St} {k : List V → Hp → Prop} (h : te σ H fun v H1 => k [v] H1) : tCons te tNil σ H k := h
def spLaw (K : PySem.W.Frag) (t : Tb) : Sp := fun vs H Q _ => ∃ (a : Addr) (ns : List Int), vs = [.ref a] ∧ SqL K H a (ns.map V.int) ∧ (∀ p ∈ t.T, H p.1 = some (.tbl #[])) ∧ (∀ p ∈ t.TN, H p.1 = some (.tbl #[])) ∧ ∀ H', Q (.bl true) H'
theorem ok_law {t : Tb} {CK CL C c T f : Addr} {fd : FuncData} (F : Fun K "law" "law" sLaw f fd) (hc : fd.code = .ref c) (M : MkT t base mg c T [qLaw])
    (FSt : Fn P w K mg base CX0 "_law_stream" 1 1 (spStream K)) (FT : Fn P w K mg base CX0 "_law_things" 3 1 (spS t (fun _ => 12) (· = []) DThings)) (FSo : Fn P w K mg base CX0 "_law_some_of" 3 3 (spS t (fun _ => 300) prSome DSome))
    (FMR : Fn P w K mg base CX0 "_law_meeting_right" 7 3 (spS t (fun _ => 2000) prMRight DTrue)) (FCR : Fn P w K mg base CX0 "_law_charted_right" 8 3 (spCR t)) (FRR : Fn P w K mg base CX0 "_law_refused_right" 10 1 (spW t (fun _ => 0) prRef DTrue))
    (FC : FnK P w K mg base (L2.CX P w) "charted" 7 2 ["keys", "ask"] (fun l => swap2 l) (spCharted P w K mg base CK C 2)) (AC : AskC P w K mg base C)
    (FM : FnK P w K mg base (L2.CX P w) "meeting" 6 2 ["lots", "keys"] (fun l => swap2 l) (spMeeting CK CL)) (FS : Fn P w K mg base CX0 "_law_same" 5 2 (spP (DSame 4))) (m1 : mg "range" = none) (m2 : mg "len" = none) :
    FnOk P w K mg base CX0 11 f fd ["_law_script"] (spLaw K t) := by
  refine ok_of F hc (N := nLaw) (k := 10) scLaw (by rintro vs H Q E ⟨a, ns, rfl, _⟩; rfl) fun A outer s H vs Q E hr hsp => ?_
  obtain ⟨a, ns, rfl, hS, hT, hTN, kq⟩ := hsp
  have hu := hr.u65
  have hsz : sizeLine = 16777216 := sizeLine_eq
  refine ⟨_, pss_cons (ps_set (i := 1) scLaw.nd rfl (.inl rfl) (pe_fn FSt (hr.mono (by decide)) (by rfl) pass0 (pa_cons (pv 0) pa_nil)))
    (pss_cons (ps_for PassesOwn.never rfl (pi_range1 rfl m1 (pa_cons pe_int pa_nil)) (pg_name (i := 2) scLaw.nd rfl (.inl rfl))
      (pss_cons (ps_set (i := 3) scLaw.nd rfl (.inl rfl) (pe_fn FT (hr.mono (by decide)) (by rfl) pass0 (pa_cons (pv 1) pa_nil)))
      (pss_cons (ps_set (i := 4) scLaw.nd rfl (.inl rfl) (pe_fn FSo (hr.mono (by decide)) (by rfl) pass0 (pa_cons (pv 1) (pa_cons (pv 3) (pa_cons pe_int pa_nil)))))
      (pss_cons (ps_if (pw_or (pt_not (pt_val (pe_fn FMR (hr.mono (by decide)) (by rfl) pass0 (pa_cons (pv 1) (pa_cons (pv 3) (pa_cons (pv 4) pa_nil)))))) (pw_or1 (pt_not (pt_val (pe_fn FCR (hr.mono (by decide)) (by rfl) pass0 (pa_cons (pv 1) (pa_cons (pv 3) (pa_cons (pv 4) pa_nil)))))))).pt (pss_one (ps_ret pe_bl)) pss_nil)
      (pss_one (ps_if (pt_not (pt_val (pe_fn FRR hr (by rfl) pass0 (pa_cons (pv 3) pa_nil)))) (pss_one (ps_ret pe_bl)) pss_nil))))))
    (pss_cons (ps_set (i := 5) scLaw.nd rfl (.inl rfl) (pe_lst (pa_cons (pe_fn FM.fn (hr.mono (by decide)) (by rfl) pass_no (pa_cons (pe_lst pa_nil) (pa_cons (pe_lst pa_nil) pa_nil))) (pa_cons (pe_fn FM.fn (hr.mono (by decide)) (by rfl) pass_no (pa_cons (pe_lst (pa_cons pe_str pa_nil)) (pa_cons (pe_lst pa_nil) pa_nil)))
      (pa_cons (pe_fn FM.fn (hr.mono (by decide)) (by rfl) pass_no (pa_cons (pe_lst (pa_cons pe_str pa_nil)) (pa_cons (pe_lst (pa_cons (pe_lst pa_nil) pa_nil)) pa_nil))) (pa_cons (pe_fn FM.fn (hr.mono (by decide)) (by rfl) pass_no (pa_cons (pe_lst (pa_cons pe_str (pa_cons pe_str pa_nil))) (pa_cons (pe_lst (pa_cons (pe_lst (pa_cons pe_str (pa_cons pe_str pa_nil))) pa_nil)) pa_nil))) pa_nil))))))
    (pss_cons (ps_if (pt_not (pt_val (pe_fn FS (hr.mono (by decide)) (by rfl) pass0 (pa_cons (pv 5) (pa_cons (pe_lst (pa_cons (pe_lst (pa_cons (pe_lst pa_nil) pa_nil)) (pa_cons (pe_lst (pa_cons (pe_lst pa_nil) pa_nil)) (pa_cons (pe_lst pa_nil) (pa_cons (pe_lst (pa_cons (pe_lst (pa_cons pe_str pa_nil)) (pa_cons (pe_lst (pa_cons pe_str pa_nil)) pa_nil))) pa_nil))))) pa_nil))))) (pss_one (ps_ret pe_bl)) pss_nil)
    (pss_cons (ps_set (i := 6) scLaw.nd rfl (.inl rfl) (pe_fn FC.fn (hr.mono (by decide)) (by rfl) pass_no (pa_cons (pe_lambB (Z := t.Z) (T := T) (qs := []) M.tb rfl (ndef_free (sc := defScope sLaw) (nsc := compSc eL5) (fr := []) (by decide +kernel)) rfl) (pa_cons (pe_lst (pa_cons pe_str (pa_cons pe_str (pa_cons pe_str pa_nil)))) pa_nil))))
    (pss_one (ps_ret (pe_fn FS (hr.mono (by decide)) (by rfl) pass0 (pa_cons (pv 6) (pa_cons (pe_tup (pa_cons (pe_lst (pa_cons (pe_lst (pa_cons pe_str (pa_cons pe_str pa_nil))) (pa_cons (pe_lst (pa_cons pe_str (pa_cons pe_str pa_nil))) (pa_cons (pe_lst (pa_cons pe_str (pa_cons pe_str pa_nil))) pa_nil)))) (pa_cons (pe_lst (pa_cons (pe_lst (pa_cons pe_str pa_nil)) (pa_cons (pe_lst (pa_cons pe_str pa_nil)) (pa_cons (pe_lst (pa_cons pe_str pa_nil)) pa_nil)))) pa_nil))) pa_nil))))))))), ?_⟩
  have lz : lim = 1099511627776 := by decide
  -- _law_stream_here
  refine ⟨_, rfl, a, ns.map V.int, rfl, hS, fun ce st h1 h2 h3 => ?_⟩
  have nT : ∀ p ∈ t.T, upd (upd H ce (.lst (ns.map V.int))) st (.lst [.ref ce, .int 0, .int 0, .int 17]) p.1 = some (.tbl #[]) := fun p hp => by
    rw [upd_ne (ne_of_none (hT p hp) h2), upd_ne (ne_of_none (hT p hp) h1)]
    exact hT p hp
  have nTN : ∀ p ∈ t.TN, upd (upd H ce (.lst (ns.map V.int))) st (.lst [.ref ce, .int 0, .int 0, .int 17]) p.1 = some (.tbl #[]) := fun p hp => by
    rw [upd_ne (ne_of_none (hTN p hp) h2), upd_ne (ne_of_none (hTN p hp) h1)]
    exact hTN p hp
  have w0 : WOk ⟨t, st, ce⟩ 0 (upd (upd H ce (.lst (ns.map V.int))) st (.lst [.ref ce, .int 0, .int 0, .int 17])) :=
    ⟨h3.symm, ⟨ns, 0, 17, 0, upd_same, by show upd _ st _ ce = _; rw [upd_ne h3]; exact upd_same, by decide, by decide, by decide, Nat.le_refl _⟩, fun p hp => ⟨⟨_, nT p hp⟩, TabX.nil (nT p hp)⟩, fun p hp => TabN.nil (nTN p hp)⟩
  generalize hW : (⟨t, st, ce⟩ : Wl) = W at w0
  have eWt : W.t = t := by rw [← hW]
  have eWs : W.st = st := by rw [← hW]
  subst eWt eWs
  generalize upd (upd H ce (.lst (ns.map V.int))) W.st (.lst [.ref ce, .int 0, .int 0, .int 17]) = H0 at w0
  have x0 : ExtW W (fun _ => none) H0 (fun _ => none) H0 := .refl (fun _ _ z => by cases z) (fun _ _ z => by cases z)
  -- for _law_turn in range(4)
  refine ⟨4, rfl, by decide, by decide, ?_⟩
  refine for_range (lo := 0) (n := 4) (fun i σ H1 => ∃ (G1 : Hp) (o2 o3 o4 : Option V), σ = [some (.ref a), some (.ref W.st), o2, o3, o4, none, none] ∧ ExtW W (fun _ => none) H0 G1 H1 ∧ WOk W (i * 4000) H1) ?_ ?_ ?_
  · exact ⟨_, none, none, none, rfl, x0, w0⟩
  · rintro i σ H1 hi ⟨G1, o2, o3, o4, rfl, x1, w1⟩
    have hl : i * 4000 + 4000 ≤ lim := by omega
    -- _law_things_here
    refine tSetN_use (c := 0 + 12) x1.gh x1.cl w1 (by omega) (D := fun d => ∃ xs, d = .list xs ∧ Things xs) (PN_callS (i := 1) (DS := (· = [])) rfl PNA_nil fun ds e => ⟨e, Nat.le_refl _, fun d ⟨xs, _, e2, h⟩ => ⟨xs, e2, h⟩⟩) fun d3 v3 G3 H3 hd3 x3 w3 dv3 => ?_
    obtain ⟨xs, rfl, hTh⟩ := hd3
    have TH := thgs_of hTh
    have t6 := TH.fam.few
    -- _law_lots_here
    refine tSetN_use (c := 0 + 300) x3.gh x3.cl w3 (by omega) (D := fun d => ∃ ls : List (List PyData), d = .list (ls.map .list) ∧ Lots xs 4 ls) (PN_callS (i := 1) (DS := (· = [.list xs, .int 4])) rfl (PNA_of (PRA_two (PR_var (i := 3) rfl dv3) PR_int)) fun ds e => by
      subst e
      refine ⟨⟨xs, 4, rfl, by omega, by decide⟩, Nat.le_refl _, fun d ⟨xs', m, ls, e1, e2, h⟩ => ?_⟩
      simp only [List.cons.injEq, PyData.list.injEq, PyData.int.injEq, and_true] at e1
      obtain ⟨rfl, e1⟩ := e1
      have : m = 4 := by omega
      subst this
      exact ⟨ls, e2, h⟩) fun d4 v4 G4 H4 hd4 x4 w4 dv4 => ?_
    obtain ⟨ls, rfl, hL⟩ := hd4
    have L := lots_ok TH.fam hL (by decide)
    have dv3_4 := dv3.up x4.gg
    -- if not .. or not ..
    have b1 : TN W (tNot (tB (tCall (spS W.t (fun _ => 2000) prMRight DTrue) [] E0 (tCons (tVar 1) (tCons (tVar 3) (tCons (tVar 4) tNil)))))) [some (.ref a), some (.ref W.st), some (.int (0 + i)), some v3, some v4, none, none] G4 (0 + 2000) (fun b => (!b) = true) :=
      TN_not (TN_tB (B := (· = true)) (D := (· = .bool true)) (PN_callS (i := 1) (DS := (· = [.list xs, .list (ls.map .list)])) rfl (PNA_of (PRA_two (PR_var (i := 3) rfl dv3_4) (PR_var (i := 4) rfl dv4))) fun ds e => by
        subst e
        exact ⟨⟨xs, ls, rfl, meet_right TH L⟩, Nat.le_refl _, fun d h => h⟩) fun d h => ⟨true, h, rfl⟩)
    have b2 : TN W (tNot (tB (tCall (spCR W.t) [] E0 (tCons (tVar 1) (tCons (tVar 3) (tCons (tVar 4) tNil)))))) [some (.ref a), some (.ref W.st), some (.int (0 + i)), some v3, some v4, none, none] G4 (0 + 1000) (fun b => (!b) = true) :=
      TN_not (TN_tB (B := (· = true)) (D := (· = .bool true)) (PN_callS (i := 1) (DS := (· = [.list xs, .list (ls.map .list)])) rfl (PNA_of (PRA_two (PR_var (i := 3) rfl dv3_4) (PR_var (i := 4) rfl dv4))) fun ds e => by
        subst e
        exact ⟨⟨xs, ls, rfl, TH, L⟩, Nat.le_refl _, fun d h => h⟩) fun d h => ⟨true, h, rfl⟩)
    refine tIfN_use x4.gh x4.cl w4 (by omega) (TN_or (TN.imp b1 (Nat.le_refl _) fun b h => by simpa using h) (TN.imp b2 (Nat.le_refl _) fun b h => by simpa using h)) fun b G6 H6 hb x6 w6 => ?_
    subst hb
    refine iteF (nxt ?_)
    -- if not _law_refused_right(..)
    have b3 : TN W (tNot (tB (tCall (spW W.t (fun _ => 0) prRef DTrue) [] E0 (tCons (tVar 3) tNil)))) [some (.ref a), some (.ref W.st), some (.int (0 + i)), some v3, some v4, none, none] G6 (0 + 0) (fun b => (!b) = true) :=
      TN_not (TN_tB (B := (· = true)) (D := (· = .bool true)) (PN_call (DS := (· = [.list xs])) (PNA_of (PRA_one (PR_var (i := 3) rfl (dv3_4.up x6.gg)))) fun ds e => by
        subst e
        exact ⟨⟨xs, rfl, hTh, TH⟩, Nat.le_refl _, fun d h => h⟩) fun d h => ⟨true, h, rfl⟩)
    refine tIfN_use x6.gh x6.cl w6 (by omega) (TN.imp b3 (Nat.le_refl _) fun b h => by simpa using h) fun b G7 H7 (hb : b = false) x7 w7 => ?_
    subst hb
    refine iteF (nxt ?_)
    exact ⟨G7, some (.int (0 + i)), some v3, some v4, rfl, (((x1.trans x3).trans x4).trans x6).trans x7, w7.mono (by omega)⟩
  · rintro σ H1 ⟨G1, o2, o3, o4, rfl, x1, w1⟩
    have sz : ∀ k : Nat, k ≤ 100 → k ≤ sizeLine := fun k h => by omega
    -- _law_found
    refine tSetN_use (c := 0) x1.gh x1.cl w1 (by omega) (D := (· = .list [.list ([[]].map .list), .list ([[]].map .list), .list (([] : List (List PyData)).map .list), .list ([[sa], [sb]].map .list)])) (PN_of (PR_lst (PRA_cons (PRF_meet meet0 (PRA_two (PR_lst PRA_nil (sz _ (by simp))) (PR_lst PRA_nil (sz _ (by simp))))).pr
      (PRA_cons (PRF_meet meet1 (PRA_two (PR_lst (PRA_one PR_str) (sz _ (by simp))) (PR_lst PRA_nil (sz _ (by simp))))).pr (PRA_two (PRF_meet meet2 (PRA_two (PR_lst (PRA_one PR_str) (sz _ (by simp))) (PR_lst (PRA_one (PR_lst PRA_nil (sz _ (by simp)))) (sz _ (by simp))))).pr
        (PRF_meet meet3 (PRA_two (PR_lst (PRA_two PR_str PR_str) (sz _ (by simp))) (PR_lst (PRA_one (PR_lst (PRA_two PR_str PR_str) (sz _ (by simp)))) (sz _ (by simp))))).pr))) (sz _ (by simp)))) fun d2 v2 G2 H2 hd2 x2 w2 dv2 => ?_
    subst hd2
    refine tIf_use (b := !true) (TR_not (TR_tB (PR_call (PRA_two (PR_var (i := 5) rfl dv2) (PR_lst (PRA_cons (PR_lst (PRA_one (PR_lst PRA_nil (sz _ (by simp)))) (sz _ (by simp))) (PRA_cons (PR_lst (PRA_one (PR_lst PRA_nil (sz _ (by simp)))) (sz _ (by simp))) (PRA_two (PR_lst PRA_nil (sz _ (by simp)))
      (PR_lst (PRA_two (PR_lst (PRA_one PR_str) (sz _ (by simp))) (PR_lst (PRA_one PR_str) (sz _ (by simp)))) (sz _ (by simp)))))) (sz _ (by simp)))) ⟨_, rfl, rfl, rel_by (by decide +kernel)⟩))) x2.gh fun H3 e3 => iteF (nxt ?_)
    have w3 := w2.up e3
    have s3 := x2.gh.trans e3
    -- _law_pairs
    dsimp only
    refine tSeq_use ?_
    refine tAsgCall_use ?_
    refine lamb_use (base := base) (mg := mg) (c := c) M w3 s3 x2.cl fun fl c' H4 LM x4 w4 => ?_
    refine tCons1_use ?_
    refine PR_lst (PRA_cons PR_str (PRA_two PR_str PR_str)) (sz _ (by simp)) H4 _ x4.gh fun v5 G5 H5 e5 dv5 => ?_
    obtain ⟨T', hcod, _⟩ := LM.code
    obtain ⟨qe, ge, nr, hR, hch⟩ := chart3
    have kk := ksays_self thgs_cab
    have el : lotD (.list [sc, sa, sb]) = sortD [sc, sa, sb] := by unfold lotD; rw [kk.keys]
    have fl5 := e5.hh _ _ LM.at_
    have cd5 := e5.hh _ _ hcod
    refine ⟨G5, fl, v5, .list [sc, sa, sb], rfl, e5.gh, dv5, kk.small thgs_cab, AC, (fun z => by rw [kk.good thgs_cab] at z; cases z), fun _ => ?_⟩
    rw [el]
    refine ⟨by rw [kk.keys]; exact thgs_cab.fam.kin, thgs_cab.sort.fine, thgs_cab.sort.nol, more1, fun _ => False, fun _ _ H' => ∀ a, H5 a ≠ none → H' a = H5 a, qe, ge, nr, fun a z => z.elim, hR, fun _ _ a _ => rfl, fun g qs Ha Hb J _ h2 a n => (h2 a n).trans (J a n), fun t G6 H6 e6 => ?_, fun g v G6 H6 J z dv => ?_⟩
    · have nz : ∀ a, H5 a ≠ none → H6 a ≠ none := fun a h => by
        cases q : H5 a with
        | none => exact absurd q h
        | some o => rw [e6.hh _ _ q]; simp
      refine ⟨fun g qs Ha J => isFn_lam (by rw [J fl (by rw [fl5]; simp)]; exact fl5), ⟨_, (cal_L5 (q := (cxOf CX0 P w K mg base nLaw "law" (defScope sLaw) f (.ref c) A outer s H E).env.qual ++ "<lambda>") (f := fl) (c := c') (cl := []) m2).mono (by decide), fun g qs l p xs Ga Ha Q' J hq hp hg gg gZ hd hs fine k => ?_⟩, fun g qs Ha Hb J h1 h2 a n => (h2 a (nz a n)).trans (J a n), fun a z => z.elim⟩
      have j1 : ∀ a o, H5 a = some o → Ha a = some o := fun a o e => (J a (by rw [e]; simp)).trans e
      have nn := same_new (o := .lst xs) hp
      refine ⟨[], T', nn _ _ (j1 _ _ fl5), nn _ _ (j1 _ _ cd5), cap_nil, p, xs, rfl, ?_, fun _ => ?_⟩
      · rw [show adr (FLam _ (compSc eL5) [] c').cl = [] from rfl, rm_nil]; exact upd_same
      · rw [show adr (FLam _ (compSc eL5) [] c').cl = [] from rfl, ovr_nil, rm_nil]
        have e : decide (1 < xs.length) = more1 l := by unfold more1; rw [hd.len]
        rw [e]
        exact k _ (fun a n => by
          have q := J a n
          cases z : H5 a with
          | none => exact absurd z n
          | some o => rw [z] at q; exact nn _ _ q) (fun a o e _ => nn _ _ e) fun a e => NdefX.upd_none e
    · rw [hch] at dv
      refine tRet_use z.gh (PR_call (PRA_two (PR_var (i := 6) rfl dv) (PR_tup (PRA_two (PR_lst (PRA_cons (PR_lst (PRA_two PR_str PR_str) (sz _ (by simp))) (PRA_two (PR_lst (PRA_two PR_str PR_str) (sz _ (by simp))) (PR_lst (PRA_two PR_str PR_str) (sz _ (by simp))))) (sz _ (by simp)))
        (PR_lst (PRA_cons (PR_lst (PRA_one PR_str) (sz _ (by simp))) (PRA_two (PR_lst (PRA_one PR_str) (sz _ (by simp))) (PR_lst (PRA_one PR_str) (sz _ (by simp))))) (sz _ (by simp)))) (sz _ (by simp)))) ⟨_, rfl, rfl, rel_by (by decide +kernel)⟩) fun v7 G7 H7 e7 dv7 => ?_
      cases dv7
      exact kq H7
end
end K48
set_option Elab.async false
set_option linter.all false
set_option maxRecDepth 100000
set_option maxHeartbeats 8000000
/-! K48x: all defs together -/
namespace K48
open PySem PySem.Spec PyProof.Rows L2 PD StX RZ NdefX LamX
/-- a method's text -/
structure Mth (K : PySem.W.Frag) (C : Addr) (m q : Str) (st : Stmt) : Prop where
  ex : ∃ (f : Addr) (fd : FuncData), Meth K C m f ∧ Fun K m q st f fd
/-- an exception's class -/
structure Exc (K : PySem.W.Frag) (mg : Str → Option Value) (C : Addr) (x f q : Str) (st : Stmt) : Prop where
  oex : OexC K C
  gC : mg x = some (.ref C)
  ini : ∃ (fI : Addr) (fd : FuncData), PySem.W.findIn K (.ref C) "__init__" = some (some (.ref fI)) ∧ PySem.W.typeIn K (.ref fI) = some (.type "function") ∧ Fun K "__init__" q st fI fd
  xf : XfC K C
  no : PySem.W.findIn K (.ref C) f = some none
/-- the program's text as it stands -/
structure Txt (K : PySem.W.Frag) (mg : Str → Option Value) (CK CL C c1 c2 c3 : Addr) : Prop where
  b : ∀ x ∈ (["isinstance", "list", "tuple", "all", "enumerate", "str", "sorted", "len", "any", "abs", "int", "range", "zip", "dict", "bool"] : List Str), mg x = none
  isList : Df K mg "is_list" sIsList
  unlike : Df K mg "are_unlike" sUnlike
  kept : Df K mg "kept_thing" sKept
  things : Df K mg "checked_things" sThings
  lots : Df K mg "checked_lots" sLots
  within : Df K mg "is_within" sWithin
  least : Df K mg "least_lists" sLeast
  meetings : Df K mg "meeting_lists" sMeetings
  meeting : Df K mg "meeting" sMeeting
  chartL : Df K mg "charted_lists" sChartL
  charted : Df K mg "charted" sCharted
  strm : Df K mg "_law_stream" sStrm
  draw : Df K mg "_law_draw" sDraw
  mixed : Df K mg "_law_mixed" sMixed
  once : Df K mg "_law_each_once" sOnce
  loose : Df K mg "_law_loose" sLoose
  same : Df K mg "_law_same" sSame
  spoilt : Df K mg "_law_spoilt" sSpoilt
  lotsL : DfC K mg "_law_lots" sLotsL c1
  thingsL : Df K mg "_law_things" sThingsL
  some_ : Df K mg "_law_some_of" sSome
  meets : Df K mg "_law_meets" sMeets
  withinL : Df K mg "_law_within" sWithinL
  meetingL : Df K mg "_law_meeting" sMeetingL
  leastOf : Df K mg "_law_least_of" sLeastOf
  mright : Df K mg "_law_meeting_right" sMRight
  cright : DfC K mg "_law_charted_right" sCRight c2
  met : Df K mg "_law_met" sMet
  refused : DfC K mg "_law_refused_right" sRef c3
  keys : Exc K mg CK "BadKeys" "keyring" "BadKeys.__init__" iKeys
  lotsX : Exc K mg CL "BadLots" "lots" "BadLots.__init__" iLots
  e1 : PySem.W.exmOne K (.ref CK) (.ref CK) = some true
  e2 : PySem.W.exmOne K (.ref CL) (.ref CK) = some false
  e3 : PySem.W.exmOne K (.ref CL) (.ref CL) = some true
  gA : mg "Asked" = some (.ref C)
  cls : Cls K C
  mkA : ∃ fi fd, Mk K C fi ∧ Fun K "__init__" "Asked.__init__" iInit fi fd
  na : ∀ x ∈ (["ask", "things", "known", "greatest"] : List Str), NoAttr K C x
  tells : Mth K C "tells" "Asked.tells" iTells
  fill : Mth K C "fill" "Asked.fill" iFill
  next : Mth K C "next_meeting" "Asked.next_meeting" iNext
section
variable {P : Program} {w : World} {K : PySem.W.Frag} {mg : Str → Option Value} {base : Heap} {CK CL C c1 c2 c3 c4 T1 T2 T3 T4 : Addr}
abbrev tb48 (T1 T2 T3 T4 : Addr) : Tb := ⟨[(T1, [lamQ "_law_lots"]), (T3, [q1Ref, q2Ref]), (T4, [qLaw])], [(T2, nmAsk)]⟩
theorem Exc.xcl {x f q : Str} {st : Stmt} (e : Exc K mg C x f q st) (h : ∀ fI fd, Fun K "__init__" q st fI fd → FnOk P w K mg base CX0 1 fI fd ["self", f] (spI C f)) (hb : ∀ (kV doc pm : Value) (an : Option Addr) (cdv ct : Value) (us : List Value), us.length = 2 → bindArgs (PySem.W.fnOf "__init__" q (defArgs st) (defBody st) (defScope st) .none kV doc pm an cdv ct) ⟨us, []⟩ = pure ((["self", f] : List Str).zip us)) : Xcl P w K mg base C x f := by
  obtain ⟨fI, fd, h1, h2, h3⟩ := e.ini
  exact ⟨e.oex, e.gC, ⟨fI, fd, ["self", f], h1, h2, h3.binds hb, h fI fd h3⟩, e.xf, e.no⟩
theorem Mth.ok {m q : Str} {st : Stmt} {k n : Nat} {ps : List Str} {sp : Sp} (M : Mth K C m q st) (h : ∀ f fd, Fun K m q st f fd → FnOk P w K mg base CX0 k f fd ps sp) (hn : ps.length = n) (hb : ∀ (kV doc pm : Value) (an : Option Addr) (cdv ct : Value) (us : List Value), us.length = ps.length → bindArgs (PySem.W.fnOf m q (defArgs st) (defBody st) (defScope st) .none kV doc pm an cdv ct) ⟨us, []⟩ = pure (ps.zip us)) : MethOk P w K mg base C m k n sp := by
  obtain ⟨f, fd, h1, h2⟩ := M.ex
  exact ⟨f, fd, ps, h1, hn, h2.binds hb, h f fd h2⟩
theorem law_of {fa : Addr} {fd : FuncData} (t : Txt K mg CK CL C c1 c2 c3) (hne : T1 ≠ T2 ∧ T1 ≠ T3 ∧ T1 ≠ T4 ∧ T2 ≠ T3 ∧ T2 ≠ T4 ∧ T3 ≠ T4) (F : Fun K "law" "law" sLaw fa fd) (hc : fd.code = .ref c4)
    (b1 : TabB base mg c1 T1) (b2 : TabB base mg c2 T2) (b3 : TabB base mg c3 T3) (b4 : TabB base mg c4 T4) : FnOk P w K mg base CX0 11 fa fd ["_law_script"] (spLaw K (tb48 T1 T2 T3 T4)) := by
  obtain ⟨n12, n13, n14, n23, n24, n34⟩ := hne
  have B : ∀ x, x ∈ (["isinstance", "list", "tuple", "all", "enumerate", "str", "sorted", "len", "any", "abs", "int", "range", "zip", "dict", "bool"] : List Str) → mg x = none := fun x hx => t.b x hx
  have bIsi := B "isinstance" (by simp)
  have bList := B "list" (by simp)
  have bTuple := B "tuple" (by simp)
  have bAll := B "all" (by simp)
  have bEnum := B "enumerate" (by simp)
  have bStr := B "str" (by simp)
  have bSorted := B "sorted" (by simp)
  have bLen := B "len" (by simp)
  have bAny := B "any" (by simp)
  have bAbs := B "abs" (by simp)
  have bInt := B "int" (by simp)
  have bRange := B "range" (by simp)
  have bZip := B "zip" (by simp)
  have bDict := B "dict" (by simp)
  have bBool := B "bool" (by simp)
  have M1 : MkT (tb48 T1 T2 T3 T4) base mg c1 T1 [lamQ "_law_lots"] := ⟨b1, by simp, fun p hp e => by
    simp only [List.mem_cons, List.not_mem_nil, or_false] at hp
    rcases hp with rfl | rfl | rfl
    · rfl
    · exact absurd e.symm n13
    · exact absurd e.symm n14, fun p hp => by
    simp only [List.mem_cons, List.not_mem_nil, or_false] at hp
    subst hp
    exact n12.symm⟩
  have M2 : MkN (tb48 T1 T2 T3 T4) base mg c2 T2 nmAsk := ⟨b2, by simp, fun p hp e => by
    simp only [List.mem_cons, List.not_mem_nil, or_false] at hp
    subst hp
    rfl, fun p hp => by
    simp only [List.mem_cons, List.not_mem_nil, or_false] at hp
    rcases hp with rfl | rfl | rfl
    · exact n12
    · exact n23.symm
    · exact n24.symm⟩
  have M3 : MkT (tb48 T1 T2 T3 T4) base mg c3 T3 [q1Ref, q2Ref] := ⟨b3, by simp, fun p hp e => by
    simp only [List.mem_cons, List.not_mem_nil, or_false] at hp
    rcases hp with rfl | rfl | rfl
    · exact absurd e n13
    · rfl
    · exact absurd e.symm n34, fun p hp => by
    simp only [List.mem_cons, List.not_mem_nil, or_false] at hp
    subst hp
    exact n23⟩
  have M4 : MkT (tb48 T1 T2 T3 T4) base mg c4 T4 [qLaw] := ⟨b4, by simp, fun p hp e => by
    simp only [List.mem_cons, List.not_mem_nil, or_false] at hp
    rcases hp with rfl | rfl | rfl
    · exact absurd e n14
    · exact absurd e n34
    · rfl, fun p hp => by
    simp only [List.mem_cons, List.not_mem_nil, or_false] at hp
    subst hp
    exact n24⟩
  have XK : Xcl P w K mg base CK "BadKeys" "keyring" := t.keys.xcl (fun fI fd F => ini_keys F t.keys.oex t.keys.no) fun _ _ _ _ _ _ us hl => match us, hl with | [_, _], _ => rfl
  have XL : Xcl P w K mg base CL "BadLots" "lots" := t.lotsX.xcl (fun fI fd F => ini_lots F t.lotsX.oex t.lotsX.no) fun _ _ _ _ _ _ us hl => match us, hl with | [_, _], _ => rfl
  have F1 := fn_isList (P := P) (w := w) (base := base) t.isList bIsi bList bTuple
  have F2 := fn_unlike (P := P) (w := w) (base := base) t.unlike bAll bEnum
  have F3 := fn_kept t.kept F1 bIsi bStr bTuple bAll
  have F4 := fn_within (P := P) (w := w) (base := base) t.within bAll
  have F5 := fn_least t.least F4 bSorted bLen bAny
  have F6 := fn_meetings t.meetings F5 bSorted bAny
  have F7 := fn_things t.things XK F1 F2 F3 bAny bIsi bStr bSorted
  have F8 := fn_lots t.lots XL F1 F2 F3 bAll bSorted
  have F9 := fn_meeting t.meeting F7 F8 F6 bSorted
  have AC : AskC P w K mg base C := ⟨t.cls, t.na _ (by simp), t.na _ (by simp), t.na _ (by simp), t.na _ (by simp)⟩
  have A1 : MethOk P w K mg base C "tells" 3 2 (spTells P w K mg base 2) := t.tells.ok (ok_tells bTuple bList) rfl fun _ _ _ _ _ _ us hl => match us, hl with | [_, _], _ => rfl
  have A2 : MethOk P w K mg base C "fill" 4 2 (spFill P w K mg base C 2) := t.fill.ok (ok_fill A1 bSorted) rfl fun _ _ _ _ _ _ us hl => match us, hl with | [_, _], _ => rfl
  have A3 : MethOk P w K mg base C "next_meeting" 5 1 (spNext P w K mg base C 2) := t.next.ok (ok_next A1 A2 F6 (by decide)) rfl fun _ _ _ _ _ _ us hl => match us, hl with | [_], _ => rfl
  have F10 : Fn P w K mg base CX0 "charted_lists" 6 2 (spChartL P w K mg base C 2) := by
    obtain ⟨fi, fdi, h1, h2⟩ := t.mkA
    obtain ⟨f, fd, h3, h4⟩ := t.chartL.ex
    exact ⟨f, fd, _, h3, h4.kp, rfl, h4.binds fun _ _ _ _ _ _ us hl => match us, hl with | [_, _], _ => rfl, ok_chartL h1 (ok_initA fi fdi h2) (h2.binds fun _ _ _ _ _ _ us hl => match us, hl with | [_, _, _], _ => rfl) t.gA bSorted A3 (by decide) f fd h4⟩
  have F11 := fn_charted t.charted F7 F10 (by decide)
  have L1 := fn_stream (P := P) (w := w) (base := base) t.strm bList
  have L2 := fn_draw (P := P) (w := w) (base := base) (t := tb48 T1 T2 T3 T4) t.draw bAbs bInt
  have L3 := fn_mixed t.mixed L2 bList bRange bLen
  have L4 := fn_once (P := P) (w := w) (base := base) t.once
  have L5 := fn_loose t.loose L2 bIsi bList bTuple 3
  have L6 := fn_same (P := P) (w := w) (base := base) t.same bIsi bList bTuple bLen bAll bZip bDict bBool 4
  have L7 := fn_spoilt (P := P) (w := w) (base := base) t.spoilt bIsi bList bTuple
  have L8 := fn_lotsL (P := P) (w := w) (base := base) t.lotsL M1 bLen bSorted
  have L9 := fn_thingsL t.thingsL L2 L3
  have L10 := fn_some t.some_ L2 L3 bRange
  have L11 := fn_meets (P := P) (w := w) (base := base) t.meets bAny
  have L12 := fn_withinL (P := P) (w := w) (base := base) t.withinL bAll
  have L13 := fn_meetingL t.meetingL L8 L11 L12 bAll bAny bSorted
  have L14 := fn_leastOf t.leastOf L4 L12 bAny bSorted
  have L15 := fn_mright t.mright F9 L5 L6 L7 L13 L14
  have L16 := fn_cright t.cright M2 F11 AC F9 L5 L6 L8 L14 L12 L4 bAny bIsi bList bSorted bAll bLen
  have L17 := fn_met (P := P) (w := w) (base := base) (k := 8) t.met t.keys.xf t.lotsX.xf t.keys.no t.lotsX.no t.keys.gC t.lotsX.gC t.e1 t.e2 t.e3
  have L18 := fn_refused t.refused M3 (fun p hp n => by
    simp only [List.mem_cons, List.not_mem_nil, or_false] at hp
    rcases hp with rfl | rfl | rfl
    · exact ⟨_, rfl⟩
    · exact absurd rfl n
    · exact ⟨_, rfl⟩) F11 AC F9 L17 L6
  exact ok_law F hc M4 L1 L9 L10 L15 L16 L18 F11 AC F9 L6 bRange bLen
end
end K48
open PySem PySem.W PyProof.Rows
set_option Elab.async false
set_option linter.all false
set_option maxRecDepth 100000
set_option maxHeartbeats 0
open_top hd48 for PySem.Challenge.rw_roadheld_k48_whole_meetings_and_few_aski
namespace K48
open PySem PySem.Spec PyProof.Rows L2 PD StX RZ NdefX LamX
section
variable {w : World} {K : PySem.W.Frag} {mg : Str → Option Value} {h : Heap}
theorem df_mk {x : Str} {st : Stmt} {f : Addr} {od an : Option Addr} {osl : Array (Option Value)} {oc kV doc pm cdv ct : Value} (X : K.In h) (G : h.Ns mainGlobals mg) (a1 : PySem.W.nsIn K mainGlobals x = some (some (.ref f)))
    (a2 : K.lookup f = some ⟨oc, od, .func (PySem.W.fnOf x x (defArgs st) (defBody st) (defScope st) .none kV doc pm an cdv ct), osl⟩) (a3 : PySem.W.codeIn K cdv x = true) (a4 : PySem.W.keepIn K (.ref f) = true) : Df K mg x st :=
  ⟨f, _, PySem.W.mg_of X G a1, fun_mk a2 a3 a4⟩
theorem dfc_mk {x : Str} {st : Stmt} {f c : Addr} {od an : Option Addr} {osl : Array (Option Value)} {oc kV doc pm ct : Value} (X : K.In h) (G : h.Ns mainGlobals mg) (a1 : PySem.W.nsIn K mainGlobals x = some (some (.ref f)))
    (a2 : K.lookup f = some ⟨oc, od, .func (PySem.W.fnOf x x (defArgs st) (defBody st) (defScope st) .none kV doc pm an (.ref c) ct), osl⟩) (a3 : PySem.W.codeIn K (.ref c) x = true) (a4 : PySem.W.keepIn K (.ref f) = true) : DfC K mg x st c :=
  ⟨f, _, PySem.W.mg_of X G a1, fun_mk a2 a3 a4, rfl⟩
theorem mth_mk {C f : Addr} {m q : Str} {st : Stmt} {od an : Option Addr} {osl : Array (Option Value)} {oc kV doc pm cdv ct : Value} (a1 : PySem.W.findIn K (.ref C) m = some (some (.ref f))) (a0 : PySem.W.isFn K (.ref f) = true)
    (a2 : K.lookup f = some ⟨oc, od, .func (PySem.W.fnOf m q (defArgs st) (defBody st) (defScope st) .none kV doc pm an cdv ct), osl⟩) (a3 : PySem.W.codeIn K cdv q = true) (a4 : PySem.W.keepIn K (.ref f) = true) : Mth K C m q st :=
  ⟨f, _, ⟨a1, a0, a4⟩, fun_mk a2 a3 a4⟩
theorem exc_mk {C fI : Addr} {x fld q : Str} {st : Stmt} {nm qq : Str} {N : Addr} {bs bm : List Value} {sn : List Str} {sub : List Value} {ab : Bool} {col : Option Bool} {dd : Option Addr} {m0 m1 m2 m3 m5 : Option Value} {od an : Option Addr} {osl : Array (Option Value)} {oc kV doc pm cdv ct : Value} (X : K.In h) (G : h.Ns mainGlobals mg)
    (aC : PySem.W.nsIn K mainGlobals x = some (some (.ref C))) (xL : K.lookup C = some (excClassObj nm qq C N bs bm true sn sub ab col dd m0 m1 m2 m3 m5 "ValueError.__new__")) (rv : PySem.HandSPX.refsVE bm = true) (sa : PySem.W.findIn K (.ref C) "__setattr__" = some (some (.builtin "object.__setattr__"))) (ga : PySem.W.findIn K (.ref C) "__getattribute__" = some (some (.builtin "BaseException.__getattribute__")))
    (gg : PySem.W.findIn K (.ref C) "__getattr__" = some none) (nb : PySem.W.findIn K (.ref C) fld = some none) (i1 : PySem.W.findIn K (.ref C) "__init__" = some (some (.ref fI))) (t1 : PySem.W.typeIn K (.ref fI) = some (.type "function"))
    (a2 : K.lookup fI = some ⟨oc, od, .func (PySem.W.fnOf "__init__" q (defArgs st) (defBody st) (defScope st) .none kV doc pm an cdv ct), osl⟩) (a3 : PySem.W.codeIn K cdv q = true) (a4 : PySem.W.keepIn K (.ref fI) = true)
    (kC : PySem.W.keepIn K (.ref C) = true) (eC : PySem.W.subIn K (.ref C) (.type "BaseException") = some true) (tC : PySem.W.typeIn K (.ref C) = some (.type "type")) (hC : PySem.W.hasDictIn K C = true) : Exc K mg C x fld q st :=
  ⟨⟨⟨nm, qq, N, bs, bm, sn, sub, ab, col, dd, m0, m1, m2, m3, m5, xL, rv⟩, sa, eC, tC, kC⟩, PySem.W.mg_of X G aC, ⟨fI, _, i1, t1, fun_mk a2 a3 a4⟩, ⟨ga, gg, eC, hC⟩, nb⟩
theorem t_isList (X : (hd48.heap_39 w.params).In h) (G : h.Ns mainGlobals mg) : Df (hd48.heap_39 w.params) mg "is_list" sIsList := by
  refine' df_mk X G ?a1 ?a2 ?a3 ?a4
  (case a1 => k_is); (case a2 => k_is); (case a3 => k_is); (case a4 => k_is)
theorem t_unlike (X : (hd48.heap_39 w.params).In h) (G : h.Ns mainGlobals mg) : Df (hd48.heap_39 w.params) mg "are_unlike" sUnlike := by
  refine' df_mk X G ?a1 ?a2 ?a3 ?a4
  (case a1 => k_is); (case a2 => k_is); (case a3 => k_is); (case a4 => k_is)
theorem t_kept (X : (hd48.heap_39 w.params).In h) (G : h.Ns mainGlobals mg) : Df (hd48.heap_39 w.params) mg "kept_thing" sKept := by
  refine' df_mk X G ?a1 ?a2 ?a3 ?a4
  (case a1 => k_is); (case a2 => k_is); (case a3 => k_is); (case a4 => k_is)
theorem t_things (X : (hd48.heap_39 w.params).In h) (G : h.Ns mainGlobals mg) : Df (hd48.heap_39 w.params) mg "checked_things" sThings := by
  refine' df_mk X G ?a1 ?a2 ?a3 ?a4
  (case a1 => k_is); (case a2 => k_is); (case a3 => k_is); (case a4 => k_is)
theorem t_lots (X : (hd48.heap_39 w.params).In h) (G : h.Ns mainGlobals mg) : Df (hd48.heap_39 w.params) mg "checked_lots" sLots := by
  refine' df_mk X G ?a1 ?a2 ?a3 ?a4
  (case a1 => k_is); (case a2 => k_is); (case a3 => k_is); (case a4 => k_is)
theorem t_within (X : (hd48.heap_39 w.params).In h) (G : h.Ns mainGlobals mg) : Df (hd48.heap_39 w.params) mg "is_within" sWithin := by
  refine' df_mk X G ?a1 ?a2 ?a3 ?a4
  (case a1 => k_is); (case a2 => k_is); (case a3 => k_is); (case a4 => k_is)
theorem t_least (X : (hd48.heap_39 w.params).In h) (G : h.Ns mainGlobals mg) : Df (hd48.heap_39 w.params) mg "least_lists" sLeast := by
  refine' df_mk X G ?a1 ?a2 ?a3 ?a4
  (case a1 => k_is); (case a2 => k_is); (case a3 => k_is); (case a4 => k_is)
theorem t_meetings (X : (hd48.heap_39 w.params).In h) (G : h.Ns mainGlobals mg) : Df (hd48.heap_39 w.params) mg "meeting_lists" sMeetings := by
  refine' df_mk X G ?a1 ?a2 ?a3 ?a4
  (case a1 => k_is); (case a2 => k_is); (case a3 => k_is); (case a4 => k_is)
theorem t_meeting (X : (hd48.heap_39 w.params).In h) (G : h.Ns mainGlobals mg) : Df (hd48.heap_39 w.params) mg "meeting" sMeeting := by
  refine' df_mk X G ?a1 ?a2 ?a3 ?a4
  (case a1 => k_is); (case a2 => k_is); (case a3 => k_is); (case a4 => k_is)
theorem t_chartL (X : (hd48.heap_39 w.params).In h) (G : h.Ns mainGlobals mg) : Df (hd48.heap_39 w.params) mg "charted_lists" sChartL := by
  refine' df_mk X G ?a1 ?a2 ?a3 ?a4
  (case a1 => k_is); (case a2 => k_is); (case a3 => k_is); (case a4 => k_is)
theorem t_charted (X : (hd48.heap_39 w.params).In h) (G : h.Ns mainGlobals mg) : Df (hd48.heap_39 w.params) mg "charted" sCharted := by
  refine' df_mk X G ?a1 ?a2 ?a3 ?a4
  (case a1 => k_is); (case a2 => k_is); (case a3 => k_is); (case a4 => k_is)
theorem t_strm (X : (hd48.heap_39 w.params).In h) (G : h.Ns mainGlobals mg) : Df (hd48.heap_39 w.params) mg "_law_stream" sStrm := by
  refine' df_mk X G ?a1 ?a2 ?a3 ?a4
  (case a1 => k_is); (case a2 => k_is); (case a3 => k_is); (case a4 => k_is)
theorem t_draw (X : (hd48.heap_39 w.params).In h) (G : h.Ns mainGlobals mg) : Df (hd48.heap_39 w.params) mg "_law_draw" sDraw := by
  refine' df_mk X G ?a1 ?a2 ?a3 ?a4
  (case a1 => k_is); (case a2 => k_is); (case a3 => k_is); (case a4 => k_is)
theorem t_mixed (X : (hd48.heap_39 w.params).In h) (G : h.Ns mainGlobals mg) : Df (hd48.heap_39 w.params) mg "_law_mixed" sMixed := by
  refine' df_mk X G ?a1 ?a2 ?a3 ?a4
  (case a1 => k_is); (case a2 => k_is); (case a3 => k_is); (case a4 => k_is)
theorem t_once (X : (hd48.heap_39 w.params).In h) (G : h.Ns mainGlobals mg) : Df (hd48.heap_39 w.params) mg "_law_each_once" sOnce := by
  refine' df_mk X G ?a1 ?a2 ?a3 ?a4
  (case a1 => k_is); (case a2 => k_is); (case a3 => k_is); (case a4 => k_is)
theorem t_loose (X : (hd48.heap_39 w.params).In h) (G : h.Ns mainGlobals mg) : Df (hd48.heap_39 w.params) mg "_law_loose" sLoose := by
  refine' df_mk X G ?a1 ?a2 ?a3 ?a4
  (case a1 => k_is); (case a2 => k_is); (case a3 => k_is); (case a4 => k_is)
theorem t_same (X : (hd48.heap_39 w.params).In h) (G : h.Ns mainGlobals mg) : Df (hd48.heap_39 w.params) mg "_law_same" sSame := by
  refine' df_mk X G ?a1 ?a2 ?a3 ?a4
  (case a1 => k_is); (case a2 => k_is); (case a3 => k_is); (case a4 => k_is)
theorem t_spoilt (X : (hd48.heap_39 w.params).In h) (G : h.Ns mainGlobals mg) : Df (hd48.heap_39 w.params) mg "_law_spoilt" sSpoilt := by
  refine' df_mk X G ?a1 ?a2 ?a3 ?a4
  (case a1 => k_is); (case a2 => k_is); (case a3 => k_is); (case a4 => k_is)
theorem t_lotsL (X : (hd48.heap_39 w.params).In h) (G : h.Ns mainGlobals mg) : ∃ c, DfC (hd48.heap_39 w.params) mg "_law_lots" sLotsL c ∧ PySem.W.codeHdIn (hd48.heap_39 w.params) c 213 = true := by
  refine' ⟨_, dfc_mk X G ?a1 ?a2 ?a3 ?a4, ?a5⟩
  (case a1 => k_is); (case a2 => k_is); (case a3 => k_is); (case a4 => k_is); (case a5 => kernel_rfl)
theorem t_thingsL (X : (hd48.heap_39 w.params).In h) (G : h.Ns mainGlobals mg) : Df (hd48.heap_39 w.params) mg "_law_things" sThingsL := by
  refine' df_mk X G ?a1 ?a2 ?a3 ?a4
  (case a1 => k_is); (case a2 => k_is); (case a3 => k_is); (case a4 => k_is)
theorem t_some_ (X : (hd48.heap_39 w.params).In h) (G : h.Ns mainGlobals mg) : Df (hd48.heap_39 w.params) mg "_law_some_of" sSome := by
  refine' df_mk X G ?a1 ?a2 ?a3 ?a4
  (case a1 => k_is); (case a2 => k_is); (case a3 => k_is); (case a4 => k_is)
theorem t_meets (X : (hd48.heap_39 w.params).In h) (G : h.Ns mainGlobals mg) : Df (hd48.heap_39 w.params) mg "_law_meets" sMeets := by
  refine' df_mk X G ?a1 ?a2 ?a3 ?a4
  (case a1 => k_is); (case a2 => k_is); (case a3 => k_is); (case a4 => k_is)
theorem t_withinL (X : (hd48.heap_39 w.params).In h) (G : h.Ns mainGlobals mg) : Df (hd48.heap_39 w.params) mg "_law_within" sWithinL := by
  refine' df_mk X G ?a1 ?a2 ?a3 ?a4
  (case a1 => k_is); (case a2 => k_is); (case a3 => k_is); (case a4 => k_is)
theorem t_meetingL (X : (hd48.heap_39 w.params).In h) (G : h.Ns mainGlobals mg) : Df (hd48.heap_39 w.params) mg "_law_meeting" sMeetingL := by
  refine' df_mk X G ?a1 ?a2 ?a3 ?a4
  (case a1 => k_is); (case a2 => k_is); (case a3 => k_is); (case a4 => k_is)
theorem t_leastOf (X : (hd48.heap_39 w.params).In h) (G : h.Ns mainGlobals mg) : Df (hd48.heap_39 w.params) mg "_law_least_of" sLeastOf := by
  refine' df_mk X G ?a1 ?a2 ?a3 ?a4
  (case a1 => k_is); (case a2 => k_is); (case a3 => k_is); (case a4 => k_is)
theorem t_mright (X : (hd48.heap_39 w.params).In h) (G : h.Ns mainGlobals mg) : Df (hd48.heap_39 w.params) mg "_law_meeting_right" sMRight := by
  refine' df_mk X G ?a1 ?a2 ?a3 ?a4
  (case a1 => k_is); (case a2 => k_is); (case a3 => k_is); (case a4 => k_is)
theorem t_cright (X : (hd48.heap_39 w.params).In h) (G : h.Ns mainGlobals mg) : ∃ c, DfC (hd48.heap_39 w.params) mg "_law_charted_right" sCRight c ∧ PySem.W.codeHdIn (hd48.heap_39 w.params) c 255 = true := by
  refine' ⟨_, dfc_mk X G ?a1 ?a2 ?a3 ?a4, ?a5⟩
  (case a1 => k_is); (case a2 => k_is); (case a3 => k_is); (case a4 => k_is); (case a5 => kernel_rfl)
theorem t_met (X : (hd48.heap_39 w.params).In h) (G : h.Ns mainGlobals mg) : Df (hd48.heap_39 w.params) mg "_law_met" sMet := by
  refine' df_mk X G ?a1 ?a2 ?a3 ?a4
  (case a1 => k_is); (case a2 => k_is); (case a3 => k_is); (case a4 => k_is)
theorem t_refused (X : (hd48.heap_39 w.params).In h) (G : h.Ns mainGlobals mg) : ∃ c, DfC (hd48.heap_39 w.params) mg "_law_refused_right" sRef c ∧ PySem.W.codeHdIn (hd48.heap_39 w.params) c 267 = true := by
  refine' ⟨_, dfc_mk X G ?a1 ?a2 ?a3 ?a4, ?a5⟩
  (case a1 => k_is); (case a2 => k_is); (case a3 => k_is); (case a4 => k_is); (case a5 => kernel_rfl)
theorem t_lawD (X : (hd48.heap_39 w.params).In h) (G : h.Ns mainGlobals mg) : ∃ c, DfC (hd48.heap_39 w.params) mg "law" sLaw c ∧ PySem.W.codeHdIn (hd48.heap_39 w.params) c 274 = true := by
  refine' ⟨_, dfc_mk X G ?a1 ?a2 ?a3 ?a4, ?a5⟩
  (case a1 => k_is); (case a2 => k_is); (case a3 => k_is); (case a4 => k_is); (case a5 => kernel_rfl)
theorem t_exc (X : (hd48.heap_39 w.params).In h) (G : h.Ns mainGlobals mg) : ∃ CK CL, Exc (hd48.heap_39 w.params) mg CK "BadKeys" "keyring" "BadKeys.__init__" iKeys ∧ Exc (hd48.heap_39 w.params) mg CL "BadLots" "lots" "BadLots.__init__" iLots ∧
    PySem.W.exmOne (hd48.heap_39 w.params) (.ref CK) (.ref CK) = some true ∧ PySem.W.exmOne (hd48.heap_39 w.params) (.ref CL) (.ref CK) = some false ∧ PySem.W.exmOne (hd48.heap_39 w.params) (.ref CL) (.ref CL) = some true := by
  refine' ⟨_, _, exc_mk X G ?kaC ?kxL ?krv ?ksa ?kga ?kgg ?knb ?ki1 ?kt1 ?ka2 ?ka3 ?ka4 ?kkC ?keC ?ktC ?khC, exc_mk X G ?laC ?lxL ?lrv ?lsa ?lga ?lgg ?lnb ?li1 ?lt1 ?la2 ?la3 ?la4 ?lkC ?leC ?ltC ?lhC, ?e1, ?e2, ?e3⟩
  (case kaC => k_is); (case kxL => k_is); (case krv => decide +kernel); (case ksa => k_is); (case kga => k_is); (case kgg => k_is); (case knb => k_is); (case ki1 => k_is); (case kt1 => k_is); (case ka2 => k_is); (case ka3 => k_is); (case ka4 => k_is); (case kkC => k_is); (case keC => k_is); (case ktC => k_is); (case khC => k_is)
  (case laC => k_is); (case lxL => k_is); (case lrv => decide +kernel); (case lsa => k_is); (case lga => k_is); (case lgg => k_is); (case lnb => k_is); (case li1 => k_is); (case lt1 => k_is); (case la2 => k_is); (case la3 => k_is); (case la4 => k_is); (case lkC => k_is); (case leC => k_is); (case ltC => k_is); (case lhC => k_is);
  (case e1 => kernel_rfl); (case e2 => kernel_rfl); (case e3 => kernel_rfl)
theorem t_asked (X : (hd48.heap_39 w.params).In h) (G : h.Ns mainGlobals mg) : ∃ C, mg "Asked" = some (.ref C) ∧ Cls (hd48.heap_39 w.params) C ∧ (∃ fi fd, Mk (hd48.heap_39 w.params) C fi ∧ Fun (hd48.heap_39 w.params) "__init__" "Asked.__init__" iInit fi fd) ∧ (∀ x ∈ (["ask", "things", "known", "greatest"] : List Str), NoAttr (hd48.heap_39 w.params) C x) ∧
    Mth (hd48.heap_39 w.params) C "tells" "Asked.tells" iTells ∧ Mth (hd48.heap_39 w.params) C "fill" "Asked.fill" iFill ∧ Mth (hd48.heap_39 w.params) C "next_meeting" "Asked.next_meeting" iNext := by
  refine' ⟨_, PySem.W.mg_of X G ?aC, ⟨?c1, ?c2, ?c3, ?c4⟩, ⟨_, _, ⟨?m1, ?m2, ?m3, ?m4⟩, fun_mk ?i1 ?i2 ?i3⟩, fun x hx => ?na, mth_mk ?t1 ?t2 ?t3 ?t4 ?t5, mth_mk ?f1 ?f2 ?f3 ?f4 ?f5, mth_mk ?n1 ?n2 ?n3 ?n4 ?n5⟩
  (case aC => k_is); (case c1 => k_is); (case c2 => k_is); (case c3 => k_is); (case c4 => k_is); (case m1 => k_is); (case m2 => k_is); (case m3 => k_is); (case m4 => k_is); (case i1 => k_is); (case i2 => k_is); (case i3 => k_is)
  (case t1 => k_is); (case t2 => k_is); (case t3 => k_is); (case t4 => k_is); (case t5 => k_is); (case f1 => k_is); (case f2 => k_is); (case f3 => k_is); (case f4 => k_is); (case f5 => k_is); (case n1 => k_is); (case n2 => k_is); (case n3 => k_is); (case n4 => k_is); (case n5 => k_is)
  case na =>
    simp only [List.mem_cons, List.not_mem_nil, or_false] at hx
    rcases hx with rfl | rfl | rfl | rfl
    · show PySem.W.findIn _ _ _ = _; k_is
    · show PySem.W.findIn _ _ _ = _; k_is
    · show PySem.W.findIn _ _ _ = _; k_is
    · show PySem.W.findIn _ _ _ = _; k_is
theorem t_law {fa : Addr} (X : (hd48.heap_39 w.params).In h) (G : h.Ns mainGlobals mg) (hfa : mg "law" = some (.ref fa)) : ∃ fd c, Fun (hd48.heap_39 w.params) "law" "law" sLaw fa fd ∧ fd.code = .ref c ∧ PySem.W.codeHdIn (hd48.heap_39 w.params) c 274 = true ∧ ∀ (s : Shared) (u : Value), BindsTo s fd ⟨[u], []⟩ [("_law_script", u)] := by
  obtain ⟨c, ⟨f', fd, h1, h2, h3⟩, h4⟩ := t_lawD (w := w) X G
  have e := h1.symm.trans hfa
  cases e
  refine ⟨fd, c, h2, h3, h4, fun s u => ?_⟩
  obtain ⟨oc, od, kV, doc, pm, an, cdv, ct, osl, rfl, _, _⟩ := h2.ex
  exact .of_eq rfl
theorem t_b (X : (hd48.heap_39 w.params).In h) (G : h.Ns mainGlobals mg) : ∀ x ∈ (["isinstance", "list", "tuple", "all", "enumerate", "str", "sorted", "len", "any", "abs", "int", "range", "zip", "dict", "bool"] : List Str), mg x = none := fun x hx => by
  refine PySem.W.mg_none_of X G ?_
  simp only [List.mem_cons, List.not_mem_nil, or_false] at hx
  rcases hx with rfl | rfl | rfl | rfl | rfl | rfl | rfl | rfl | rfl | rfl | rfl | rfl | rfl | rfl | rfl <;> k_is
theorem t_txt (X : (hd48.heap_39 w.params).In h) (G : h.Ns mainGlobals mg) : ∃ CK CL C c1 c2 c3, Txt (hd48.heap_39 w.params) mg CK CL C c1 c2 c3 ∧ PySem.W.codeHdIn (hd48.heap_39 w.params) c1 213 = true ∧ PySem.W.codeHdIn (hd48.heap_39 w.params) c2 255 = true ∧ PySem.W.codeHdIn (hd48.heap_39 w.params) c3 267 = true := by
  obtain ⟨CK, CL, k1, k2, e1, e2, e3⟩ := t_exc (w := w) X G
  obtain ⟨C, a1, a2, a3, a4, a5, a6, a7⟩ := t_asked (w := w) X G
  obtain ⟨c1, p1, q1⟩ := t_lotsL (w := w) X G
  obtain ⟨c2, p2, q2⟩ := t_cright (w := w) X G
  obtain ⟨c3, p3, q3⟩ := t_refused (w := w) X G
  exact ⟨CK, CL, C, c1, c2, c3, { b := t_b X G, isList := t_isList X G, unlike := t_unlike X G, kept := t_kept X G, things := t_things X G, lots := t_lots X G, within := t_within X G, least := t_least X G, meetings := t_meetings X G, meeting := t_meeting X G, chartL := t_chartL X G, charted := t_charted X G, strm := t_strm X G, draw := t_draw X G, mixed := t_mixed X G, once := t_once X G, loose := t_loose X G, same := t_same X G, spoilt := t_spoilt X G, lotsL := p1, thingsL := t_thingsL X G, some_ := t_some_ X G, meets := t_meets X G, withinL := t_withinL X G, meetingL := t_meetingL X G, leastOf := t_leastOf X G, mright := t_mright X G, cright := p2, met := t_met X G, refused := p3, keys := k1, lotsX := k2, e1 := e1, e2 := e2, e3 := e3, gA := a1, cls := a2, mkA := a3, na := a4, tells := a5, fill := a6, next := a7 }, q1, q2, q3⟩
end
end K48
open PySem PySem.Spec PyProof.Rows L2 K48
theorem PySem.Challenge.cw_roadheld_k48_whole_meetings_and_few_aski_holds : PySem.Challenge.rw_roadheld_k48_whole_meetings_and_few_aski.Holds := by
  refine hd48 (LamX.walk_ofTs (n := 63) (k := 11) (K := hd48.heap_39) (CX := fun _ => L2.CX0) (x := "_law_script") rfl (by decide) rfl ⟨rfl, by decide, by decide⟩ (fun w h Y => PySem.W.km_in_of Y) (fun w mg fa h Y KX G hmg => ?_) (fun _ _ _ _ _ z => z))
  have hT := PySem.W.km_tabs_of Y
  obtain ⟨CK, CL, C, c1, c2, c3, T, q1, q2, q3⟩ := t_txt (w := w) KX G
  obtain ⟨fd, c4, F, hc, q4, hb⟩ := t_law (w := w) KX G hmg
  refine ⟨fd, [(c1, 213), (c2, 255), (c3, 267), (c4, 274)], spLaw _ (tb48 213 255 267 274), fun p hp => ?_, fun p hp => ?_, fun p hp => ?_, hb, fun H a ns _ _ hH hS => ⟨a, ns, rfl, hS, fun p hp => ?_, fun p hp => ?_, fun _ => rfl⟩, fun base _ _ hTb => law_of T ⟨by decide, by decide, by decide, by decide, by decide, by decide⟩ F hc (hTb (c1, 213) (by simp)) (hTb (c2, 255) (by simp)) (hTb (c3, 267) (by simp)) (hTb (c4, 274) (by simp))⟩
  · simp only [List.mem_cons, List.not_mem_nil, or_false] at hp
    rcases hp with rfl | rfl | rfl | rfl
    · exact hT 213 (by decide)
    · exact hT 255 (by decide)
    · exact hT 267 (by decide)
    · exact hT 274 (by decide)
  · simp only [List.mem_cons, List.not_mem_nil, or_false] at hp
    rcases hp with rfl | rfl | rfl | rfl <;> kernel_rfl
  · simp only [List.mem_cons, List.not_mem_nil, or_false] at hp
    rcases hp with rfl | rfl | rfl | rfl
    · exact PySem.W.codeHd_of_K KX q1
    · exact PySem.W.codeHd_of_K KX q2
    · exact PySem.W.codeHd_of_K KX q3
    · exact PySem.W.codeHd_of_K KX q4
  · simp only [List.mem_cons, List.not_mem_nil, or_false] at hp
    rcases hp with rfl | rfl | rfl
    · exact hH (c1, 213) (by simp)
    · exact hH (c3, 267) (by simp)
    · exact hH (c4, 274) (by simp)
  · simp only [List.mem_cons, List.not_mem_nil, or_false] at hp
    subst hp
    exact hH (c2, 255) (by simp)
#print axioms PySem.Challenge.cw_roadheld_k48_whole_meetings_and_few_aski_holds
