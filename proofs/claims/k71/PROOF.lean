import PyProof.Rows.All
import Wide.All
import OpenK.AllK
import Wide.FinOn
import HandS.ForMost
import HandS.Walk
import HandS.IsInst
import HandS.TupLe
import HandS.TupAny
import HandS.NoneIn
import HandS.SetFor
import HandS.Strs
import HandS.DictComp
import HandS.TupSets
import HandS.Wide
import HandS.Zip
import HandS.Flow
import HandS.DictTup
import KE.KDictKeyed
import KE.KDictLaw
import KE.KDictWalk
import KE.LtData
import KE.SortData
import KE.GoesEnum
import HandS.Conv
import PySem.Challenge.RW_falsedays_k71_whole_least_false_days_of
set_option Elab.async false
set_option linter.all false
set_option maxRecDepth 100000
set_option maxHeartbeats 4000000
/-! Data told as nested keys, over the hand layer: what a value stands for, and the rules that compare such values. -/
namespace Fd
open PySem PySem.Spec PyProof.Rows L2

abbrev D := PySem.NestedKey

mutual
/-- the value v stands for the datum -/
def Dat (H : Hp) : D → V → Prop
  | .none, v => v = .non
  | .num i, v => v = .int i
  | .text x, v => v = .str x
  | .tup ks, v => ∃ a vs, v = .ref a ∧ H a = some (.tup vs) ∧ Dats H ks vs
def Dats (H : Hp) : List D → List V → Prop
  | [], vs => vs = []
  | k :: ks, vs => ∃ x r, vs = x :: r ∧ Dat H k x ∧ Dats H ks r
end

/-- the tuples stay -/
def Tx (H H' : Hp) : Prop := ∀ a xs, H a = some (.tup xs) → H' a = some (.tup xs)
theorem Tx.refl (H : Hp) : Tx H H := fun _ _ h => h
theorem Tx.trans {H H1 H2 : Hp} (a : Tx H H1) (b : Tx H1 H2) : Tx H H2 := fun x o h => b x o (a x o h)
theorem tx_same {H H' : Hp} (s : Same H H') : Tx H H' := fun a _ h => s a _ h
/-- an object that is no tuple may change -/
theorem tx_upd {H : Hp} {p : Addr} {o : HO} (h : ∀ xs, H p ≠ some (.tup xs)) : Tx H (upd H p o) := fun a xs e => by
  have hn : a ≠ p := fun z => h xs (z ▸ e)
  rw [upd_ne hn]
  exact e
theorem tx_new {H : Hp} {p : Addr} {o : HO} (h : H p = none) : Tx H (upd H p o) := tx_upd fun xs e => by
  rw [h] at e
  cases e
theorem tx_lst {H : Hp} {p : Addr} {o : HO} {ys : List V} (h : H p = some (.lst ys)) : Tx H (upd H p o) := tx_upd fun xs e => by
  rw [h] at e
  cases e

mutual
theorem Dat.mono {H H' : Hp} (t : Tx H H') : ∀ (d : D) (v : V), Dat H d v → Dat H' d v
  | .none, _, h => h
  | .num _, _, h => h
  | .text _, _, h => h
  | .tup ks, _, h => by
    unfold Dat at h
    obtain ⟨a, vs, e, ha, hs⟩ := h
    unfold Dat
    exact ⟨a, vs, e, t a vs ha, Dats.mono t ks vs hs⟩
theorem Dats.mono {H H' : Hp} (t : Tx H H') : ∀ (ds : List D) (vs : List V), Dats H ds vs → Dats H' ds vs
  | [], _, h => h
  | d :: ds, _, h => by
    unfold Dats at h
    obtain ⟨x, r, e, h1, h2⟩ := h
    unfold Dats
    exact ⟨x, r, e, Dat.mono t d x h1, Dats.mono t ds r h2⟩
end
theorem dats_nil {H : Hp} : Dats H [] [] := by
  unfold Dats
  rfl
theorem dats_cons {H : Hp} {d : D} {ds : List D} {v : V} {vs : List V} (h : Dat H d v) (t : Dats H ds vs) : Dats H (d :: ds) (v :: vs) := by
  unfold Dats
  exact ⟨v, vs, rfl, h, t⟩
theorem dats_uncons {H : Hp} {d : D} {ds : List D} {v : V} {vs : List V} (h : Dats H (d :: ds) (v :: vs)) : Dat H d v ∧ Dats H ds vs := by
  unfold Dats at h
  obtain ⟨x, r, e, h1, h2⟩ := h
  cases e
  exact ⟨h1, h2⟩
theorem dats_of_nil {H : Hp} {vs : List V} (h : Dats H [] vs) : vs = [] := by
  unfold Dats at h
  exact h
theorem dats_of_cons {H : Hp} {d : D} {ds : List D} {vs : List V} (h : Dats H (d :: ds) vs) : ∃ v r, vs = v :: r ∧ Dat H d v ∧ Dats H ds r := by
  unfold Dats at h
  exact h
theorem dats_len {H : Hp} : ∀ {ds : List D} {vs : List V}, Dats H ds vs → vs.length = ds.length
  | [], _, h => by
    rw [dats_of_nil h]
    rfl
  | d :: ds, _, h => by
    obtain ⟨v, r, rfl, _, h2⟩ := dats_of_cons h
    simp [dats_len h2]
theorem dats_app {H : Hp} : ∀ {ds es : List D} {vs us : List V}, Dats H ds vs → Dats H es us → Dats H (ds ++ es) (vs ++ us)
  | [], _, _, _, h, g => by
    rw [dats_of_nil h]
    exact g
  | d :: ds, _, _, _, h, g => by
    obtain ⟨v, r, rfl, h1, h2⟩ := dats_of_cons h
    exact dats_cons h1 (dats_app h2 g)
theorem dats_get {H : Hp} : ∀ {ds : List D} {vs : List V} {i : Nat} {d : D}, Dats H ds vs → ds[i]? = some d → ∃ v, vs[i]? = some v ∧ Dat H d v
  | [], _, _, _, _, e => by simp at e
  | k :: ds, _, 0, d, h, e => by
    obtain ⟨v, r, rfl, h1, h2⟩ := dats_of_cons h
    have e' : k = d := by simpa using e
    subst e'
    exact ⟨v, rfl, h1⟩
  | k :: ds, _, i + 1, d, h, e => by
    obtain ⟨v, r, rfl, h1, h2⟩ := dats_of_cons h
    have e' : ds[i]? = some d := by simpa using e
    obtain ⟨w, q1, q2⟩ := dats_get h2 e'
    exact ⟨w, by simpa using q1, q2⟩
theorem dats_getV {H : Hp} : ∀ {ds : List D} {vs : List V} {i : Nat} {v : V}, Dats H ds vs → vs[i]? = some v → ∃ d, ds[i]? = some d ∧ Dat H d v
  | [], _, _, _, h, e => by
    rw [dats_of_nil h] at e
    simp at e
  | k :: ds, _, 0, v, h, e => by
    obtain ⟨w, r, rfl, h1, h2⟩ := dats_of_cons h
    have e' : w = v := by simpa using e
    subst e'
    exact ⟨k, rfl, h1⟩
  | k :: ds, _, i + 1, v, h, e => by
    obtain ⟨w, r, rfl, h1, h2⟩ := dats_of_cons h
    have e' : r[i]? = some v := by simpa using e
    obtain ⟨d, q1, q2⟩ := dats_getV h2 e'
    exact ⟨d, by simpa using q1, q2⟩
theorem dats_take {H : Hp} : ∀ {ds : List D} {vs : List V} (n : Nat), Dats H ds vs → Dats H (ds.take n) (vs.take n)
  | _, _, 0, _ => dats_nil
  | [], _, _ + 1, h => by
    rw [dats_of_nil h]
    exact dats_nil
  | d :: ds, _, n + 1, h => by
    obtain ⟨v, r, rfl, h1, h2⟩ := dats_of_cons h
    exact dats_cons h1 (dats_take n h2)
theorem dats_drop {H : Hp} : ∀ {ds : List D} {vs : List V} (n : Nat), Dats H ds vs → Dats H (ds.drop n) (vs.drop n)
  | _, _, 0, h => h
  | [], _, _ + 1, h => by
    rw [dats_of_nil h]
    exact dats_nil
  | d :: ds, _, n + 1, h => by
    obtain ⟨v, r, rfl, h1, h2⟩ := dats_of_cons h
    exact dats_drop n h2
/-- whole numbers are their own values -/
theorem dats_nums {H : Hp} : ∀ {ns : List Int} {vs : List V}, Dats H (ns.map .num) vs → vs = ns.map V.int
  | [], _, h => dats_of_nil h
  | n :: ns, _, h => by
    obtain ⟨v, r, rfl, h1, h2⟩ := dats_of_cons h
    unfold Dat at h1
    rw [h1, dats_nums h2]
    rfl
theorem dats_ints {H : Hp} : ∀ (ns : List Int), Dats H (ns.map .num) (ns.map V.int)
  | [] => dats_nil
  | n :: ns => dats_cons (by unfold Dat; rfl) (dats_ints ns)
theorem dats_perm {H : Hp} {vs us : List V} (p : us.Perm vs) : ∀ {ds : List D}, Dats H ds vs → ∃ es : List D, es.Perm ds ∧ Dats H es us := by
  induction p with
  | nil => exact fun h => ⟨_, List.Perm.refl _, h⟩
  | cons x _ ih =>
    intro ds h
    cases ds with
    | nil => exact absurd (dats_of_nil h) (by simp)
    | cons d ds =>
      obtain ⟨h1, h2⟩ := dats_uncons h
      obtain ⟨es, q1, q2⟩ := ih h2
      exact ⟨d :: es, q1.cons d, dats_cons h1 q2⟩
  | swap x y l =>
    intro ds h
    match ds, h with
    | [], h => exact absurd (dats_of_nil h) (by simp)
    | [_], h =>
      obtain ⟨_, h2⟩ := dats_uncons h
      exact absurd (dats_of_nil h2) (by simp)
    | d :: e :: ds, h =>
      obtain ⟨h1, h2⟩ := dats_uncons h
      obtain ⟨h3, h4⟩ := dats_uncons h2
      exact ⟨e :: d :: ds, List.Perm.swap _ _ _, dats_cons h3 (dats_cons h1 h4)⟩
  | trans _ _ ih1 ih2 =>
    intro ds h
    obtain ⟨es, q1, q2⟩ := ih2 h
    obtain ⟨fs, q3, q4⟩ := ih1 q2
    exact ⟨fs, q3.trans q1, q4⟩

section
variable {X : Cx} {pins : List (Addr × Obj)} {σ : L2.St} {H : Hp} {s : Shared}
mutual
theorem Dat.nest (I : Inv X pins σ H s) : ∀ (d : D) (v : V) (u : Value), Dat H d v → RelV v u → NestedIs s.heap d u
  | .none, _, _, h, r => by
    unfold Dat at h
    subst h
    cases r
    exact .none
  | .num i, _, _, h, r => by
    unfold Dat at h
    subst h
    obtain ⟨t, rfl⟩ := r
    exact .int i t
  | .text x, _, _, h, r => by
    unfold Dat at h
    subst h
    obtain ⟨t, rfl⟩ := r
    exact .text x t
  | .tup ks, _, _, h, r => by
    unfold Dat at h
    obtain ⟨a, vs, rfl, ha, hs⟩ := h
    cases r
    obtain ⟨its, rv, ⟨o, ho, hc, n, hd⟩, _⟩ := I.tuple (SqT.of ha)
    exact .tup ho hc hd (by simpa using Dats.nest I ks vs its hs rv)
theorem Dats.nest (I : Inv X pins σ H s) : ∀ (ds : List D) (vs : List V) (us : List Value), Dats H ds vs → Vals vs us → NestedAll s.heap ds us
  | [], _, _, h, r => by
    rw [dats_of_nil h] at r
    cases r
    exact .nil
  | d :: ds, _, _, h, r => by
    obtain ⟨v, q, rfl, h1, h2⟩ := dats_of_cons h
    cases r with
    | cons r1 r2 => exact .cons (Dat.nest I d v _ h1 r1) (Dats.nest I ds q _ h2 r2)
end

end
end Fd

/-! Rules over data: ==, !=, <, >=, in. -/
namespace Fd
open PySem PySem.Spec PyProof.Rows L2
mutual
/-- whole numbers, None and tuples of such -/
def plain : D → Bool
  | .none => true
  | .num _ => true
  | .text _ => false
  | .tup ks => plainAll ks
def plainAll : List D → Bool
  | [] => true
  | k :: ks => plain k && plainAll ks
end
theorem plainAll_iff : ∀ {ks : List D}, plainAll ks = true ↔ ∀ k ∈ ks, plain k = true
  | [] => by simp [plainAll]
  | k :: ks => by simp [plainAll, plainAll_iff (ks := ks)]
mutual
theorem plain_lay : ∀ d : D, plain d = true → d.data.canLay0 = true
  | .none, _ => rfl
  | .num _, _ => rfl
  | .text _, h => by simp [plain] at h
  | .tup ks, h => by
    simp only [NestedKey.data, PyData.canLay0]
    exact plain_lays ks (by simpa [plain] using h)
theorem plain_lays : ∀ ds : List D, plainAll ds = true → PyData.canLayAll0 (NestedKey.datas ds) = true
  | [], _ => rfl
  | d :: ds, h => by
    simp only [plainAll, Bool.and_eq_true] at h
    simp only [NestedKey.datas, PyData.canLayAll0, Bool.and_eq_true]
    exact ⟨plain_lay d h.1, plain_lays ds h.2⟩
end
mutual
theorem data_depth : ∀ d : D, d.data.depth = d.depth
  | .none => rfl
  | .num _ => rfl
  | .text _ => rfl
  | .tup ks => by
    simp only [NestedKey.data, PyData.depth, NestedKey.depth]
    rw [datas_depth ks]
theorem datas_depth : ∀ ds : List D, PyData.depthAll (NestedKey.datas ds) = NestedKey.depthAll ds
  | [] => rfl
  | d :: ds => by
    simp only [NestedKey.datas, PyData.depthAll, NestedKey.depthAll]
    rw [data_depth d, datas_depth ds]
end
mutual
theorem data_eqv : ∀ d e : D, PyData.eqv d.data e.data = NestedKey.beq d e
  | .none, .none => rfl
  | .none, .num _ => rfl
  | .none, .text _ => rfl
  | .none, .tup _ => rfl
  | .num _, .none => rfl
  | .num a, .num b => by
    simp only [NestedKey.data, PyData.eqv, NestedKey.beq]
    rw [Bool.beq_eq_decide_eq]
  | .num _, .text _ => rfl
  | .num _, .tup _ => rfl
  | .text _, .none => rfl
  | .text _, .num _ => rfl
  | .text a, .text b => by
    simp only [NestedKey.data, PyData.eqv, NestedKey.beq]
    by_cases h : a = b
    · subst h
      simp
    · rw [decide_eq_false h]
      exact beq_eq_false_iff_ne.mpr h
  | .text _, .tup _ => rfl
  | .tup _, .none => rfl
  | .tup _, .num _ => rfl
  | .tup _, .text _ => rfl
  | .tup a, .tup b => by
    simp only [NestedKey.data, PyData.eqv, NestedKey.beq]
    exact datas_eqv a b
theorem datas_eqv : ∀ d e : List D, PyData.eqvAll (NestedKey.datas d) (NestedKey.datas e) = NestedKey.beqAll d e
  | [], [] => rfl
  | [], _ :: _ => rfl
  | _ :: _, [] => rfl
  | a :: as, b :: bs => by
    simp only [NestedKey.datas, PyData.eqvAll, NestedKey.beqAll]
    rw [data_eqv a b, datas_eqv as bs]
end
theorem eqv_decide (d e : D) : PyData.eqv d.data e.data = decide (d = e) := by
  rw [data_eqv, ← NestedKey.decide_eq]
theorem plain_shaped {d : D} (h : plain d = true) (h8 : d.depth ≤ 8) : SeqAt.shaped d.data = true := by
  unfold SeqAt.shaped
  rw [plain_lay d h, data_depth]
  simp
  omega
/-- what may be compared and may be a key -/
def Okd (d : D) : Prop := plain d = true ∧ d.depth ≤ 8
theorem Okd.shaped {d : D} (h : Okd d) : SeqAt.shaped d.data = true := plain_shaped h.1 h.2

section
variable {X : Cx} {pins : List (Addr × Obj)} {σ : L2.St} {H : Hp} {s : Shared}
mutual
theorem Dat.dp {K : PySem.W.Frag} : ∀ (d : D) (v : V), Dat H d v → Dp K H v d.data
  | .none, _, h => by
    unfold Dat at h
    subst h
    exact .non
  | .num i, _, h => by
    unfold Dat at h
    subst h
    exact .int i
  | .text x, _, h => by
    unfold Dat at h
    subst h
    exact .str x
  | .tup ks, _, h => by
    unfold Dat at h
    obtain ⟨a, vs, rfl, ha, hs⟩ := h
    simp only [NestedKey.data]
    exact .tup (SqT.of ha) (Dats.dp ks vs hs)
theorem Dats.dp {K : PySem.W.Frag} : ∀ (ds : List D) (vs : List V), Dats H ds vs → DpAll K H vs (NestedKey.datas ds)
  | [], _, h => by
    rw [dats_of_nil h]
    exact .nil
  | d :: ds, _, h => by
    obtain ⟨v, q, rfl, h1, h2⟩ := dats_of_cons h
    simp only [NestedKey.datas]
    exact .cons (Dat.dp d v h1) (Dats.dp ds q h2)
end
theorem Dat.reads (I : Inv X pins σ H s) {d : D} {v : V} {u : Value} (h : Dat H d v) (r : RelV v u) : ∃ as, Reads s.heap u d.data as := Dp.reads I d.data v u (Dat.dp d v h) r

/-- == and != of data -/
def rEqN : R2 := fun x y H Q => ∃ d e : D, Dat H d x ∧ Dat H e y ∧ Okd d ∧ Okd e ∧ Q (.bl (decide (d = e))) H
def rNeN : R2 := fun x y H Q => ∃ d e : D, Dat H d x ∧ Dat H e y ∧ Okd d ∧ Okd e ∧ Q (.bl (!decide (d = e))) H
theorem op_eqN (hu : X.A.units + 64 < cLine) : OpR X (compareOp .Eq) rEqN := by
  intro pins s σ H x y v u Q I rx ry h
  obtain ⟨d, e, hd, he, od, oe, q⟩ := h
  obtain ⟨as, r1⟩ := Dat.reads I hd rx
  obtain ⟨bs, r2⟩ := Dat.reads I he ry
  exact SeqAt.compareEq_shaped r1 r2 od.shaped oe.shaped hu ⟨.bl _, H, I, by rw [eqv_decide]; rfl, q⟩
theorem op_neN (hu : X.A.units + 64 < cLine) : OpR X (compareOp .NotEq) rNeN := by
  intro pins s σ H x y v u Q I rx ry h
  obtain ⟨d, e, hd, he, od, oe, q⟩ := h
  obtain ⟨as, r1⟩ := Dat.reads I hd rx
  obtain ⟨bs, r2⟩ := Dat.reads I he ry
  exact SeqAt.compareNe_shaped r1 r2 od.shaped oe.shaped hu ⟨.bl _, H, I, by rw [eqv_decide]; rfl, q⟩
/-- a row of data: a list, or a tuple -/
def Row (K : PySem.W.Frag) (H : Hp) (y : V) (ds : List D) : Prop := ∃ a vs, y = .ref a ∧ (SqL K H a vs ∨ SqT K H a vs) ∧ Dats H ds vs
def rInN (K : PySem.W.Frag) (neg : Bool) : R2 := fun x y H Q => ∃ (d : D) (ds : List D), Dat H d x ∧ Row K H y ds ∧ Okd d ∧ (∀ e ∈ ds, Okd e) ∧ Q (.bl (if neg = true then !decide (d ∈ ds) else decide (d ∈ ds))) H
theorem oks_shaped {ds : List D} (h : ∀ e ∈ ds, Okd e) : PyData.canLayAll0 (NestedKey.datas ds) = true := plain_lays ds (plainAll_iff.mpr fun k hk => (h k hk).1)
theorem any_eqv (d : D) : ∀ ds : List D, ((NestedKey.datas ds).any fun y => PyData.eqv y d.data) = decide (d ∈ ds)
  | [] => by simp [NestedKey.datas]
  | e :: ds => by
    simp only [NestedKey.datas, List.any_cons, any_eqv d ds, eqv_decide]
    by_cases h : e = d
    · subst h
      simp
    · have h' : ¬ d = e := fun z => h z.symm
      simp [h, h']
theorem inN_run (I : Inv X pins σ H s) (hu : X.A.units + 64 < cLine) {neg : Bool} {x y : V} {v u : Value} {Q : VK} (rx : RelV x v) (ry : RelV y u) (h : rInN X.K neg x y H Q) :
    wpAny (model X.prog X.w) X.A (compareOp (if neg = true then .NotIn else .In) v u) (EP X pins σ Q) X.xe s := by
  obtain ⟨d, ds, hd, ⟨a, vs, rfl, hs, hds⟩, od, ods, q⟩ := h
  obtain ⟨as, r1⟩ := Dat.reads I hd rx
  have lay := oks_shaped ods
  have room : X.A.units + 1 + min (PyData.depthAll (NestedKey.datas ds)) d.data.depth < cLine := by
    have h1 : min (PyData.depthAll (NestedKey.datas ds)) d.data.depth ≤ d.data.depth := Nat.min_le_right _ _
    rw [data_depth] at h1 ⊢
    have h2 := od.2
    omega
  have fin : ∀ b : Bool, b = (if neg = true then !decide (d ∈ ds) else decide (d ∈ ds)) → EP X pins σ Q (.bool b) s := fun b e => ⟨.bl b, H, I, rfl, e ▸ q⟩
  rcases hs with hs | hs
  · obtain ⟨bs, r2⟩ := Dp.reads I (.list (NestedKey.datas ds)) (.ref a) u (.lst hs (Dats.dp ds vs hds)) ry
    cases neg with
    | true =>
      refine SeqAt.notIn_list_reads r2 r1 lay (plain_lay d od.1) room (fin _ ?_)
      rw [any_eqv]
      rfl
    | false =>
      refine SeqAt.in_list_reads r2 r1 lay (plain_lay d od.1) room (fin _ ?_)
      rw [any_eqv]
      rfl
  · obtain ⟨bs, r2⟩ := Dp.reads I (.tuple (NestedKey.datas ds)) (.ref a) u (.tup hs (Dats.dp ds vs hds)) ry
    cases neg with
    | true =>
      refine SeqAt.notIn_tuple_reads r2 r1 lay (plain_lay d od.1) room (fin _ ?_)
      rw [any_eqv]
      rfl
    | false =>
      refine SeqAt.in_tuple_reads r2 r1 lay (plain_lay d od.1) room (fin _ ?_)
      rw [any_eqv]
      rfl
theorem op_inN (hu : X.A.units + 64 < cLine) : OpR X (compareOp .In) (rInN X.K false) := fun pins s σ H x y v u Q I rx ry h => inN_run I hu rx ry h
theorem op_notInN (hu : X.A.units + 64 < cLine) : OpR X (compareOp .NotIn) (rInN X.K true) := fun pins s σ H x y v u Q I rx ry h => inN_run I hu rx ry h
end

/-! ### order -/
mutual
/-- x < y, place by place -/
def dlt : D → D → Bool
  | .num a, .num b => decide (a < b)
  | .tup xs, .tup ys => dltAll xs ys
  | _, _ => false
def dltAll : List D → List D → Bool
  | [], [] => false
  | [], _ :: _ => true
  | _ :: _, [] => false
  | x :: xs, y :: ys => if x = y then dltAll xs ys else dlt x y
end
mutual
/-- the two are of one build -/
def same1 : D → D → Bool
  | .num _, .num _ => true
  | .tup xs, .tup ys => same1All xs ys
  | _, _ => false
def same1All : List D → List D → Bool
  | x :: xs, y :: ys => same1 x y && same1All xs ys
  | [], _ => true
  | _ :: _, [] => true
end
mutual
theorem same1_alike : ∀ d e : D, same1 d e = true → PySem.W.alike d.data e.data = true
  | .num _, .num _, _ => rfl
  | .tup xs, .tup ys, h => by
    simp only [NestedKey.data, PySem.W.alike]
    exact same1All_alike xs ys (by simpa [same1] using h)
  | .none, _, h => by simp [same1] at h
  | .text _, _, h => by simp [same1] at h
  | .num _, .none, h => by simp [same1] at h
  | .num _, .text _, h => by simp [same1] at h
  | .num _, .tup _, h => by simp [same1] at h
  | .tup _, .none, h => by simp [same1] at h
  | .tup _, .text _, h => by simp [same1] at h
  | .tup _, .num _, h => by simp [same1] at h
theorem same1All_alike : ∀ d e : List D, same1All d e = true → PySem.W.alikeAll (NestedKey.datas d) (NestedKey.datas e) = true
  | [], _, _ => by simp [NestedKey.datas, PySem.W.alikeAll]
  | _ :: _, [], _ => by simp [NestedKey.datas, PySem.W.alikeAll]
  | x :: xs, y :: ys, h => by
    simp only [same1All, Bool.and_eq_true] at h
    simp only [NestedKey.datas, PySem.W.alikeAll, Bool.and_eq_true]
    exact ⟨same1_alike x y h.1, same1All_alike xs ys h.2⟩
end
mutual
theorem dlt_data : ∀ d e : D, same1 d e = true → PySem.W.dataLt d.data e.data = dlt d e
  | .num a, .num b, _ => by
    simp only [NestedKey.data, dlt]
    exact PySem.W.dataLt_int a b
  | .tup xs, .tup ys, h => by
    simp only [NestedKey.data, dlt]
    rw [PySem.W.dataLt_tuple]
    exact dltAll_data xs ys (by simpa [same1] using h)
  | .none, _, h => by simp [same1] at h
  | .text _, _, h => by simp [same1] at h
  | .num _, .none, h => by simp [same1] at h
  | .num _, .text _, h => by simp [same1] at h
  | .num _, .tup _, h => by simp [same1] at h
  | .tup _, .none, h => by simp [same1] at h
  | .tup _, .text _, h => by simp [same1] at h
  | .tup _, .num _, h => by simp [same1] at h
theorem dltAll_data : ∀ d e : List D, same1All d e = true → PyProof.Rows.lexLt itemOrd (PySem.W.keyToksAll (NestedKey.datas d)) (PySem.W.keyToksAll (NestedKey.datas e)) = dltAll d e
  | [], [], _ => by
    simp only [NestedKey.datas, dltAll]
    decide +kernel
  | [], y :: ys, _ => by
    simp only [NestedKey.datas, dltAll]
    unfold PySem.W.keyToksAll
    rw [PySem.W.lex_atom (by decide), PySem.W.lex_one]
    decide +kernel
  | x :: xs, [], _ => by
    simp only [NestedKey.datas, dltAll]
    unfold PySem.W.keyToksAll
    rw [PySem.W.lex_atom (by decide), PySem.W.lex_one]
    decide +kernel
  | x :: xs, y :: ys, h => by
    simp only [same1All, Bool.and_eq_true] at h
    simp only [NestedKey.datas, dltAll]
    rw [PySem.W.dataLt_cons (same1_alike x y h.1), eqv_decide, dlt_data x y h.1, dltAll_data xs ys h.2]
    by_cases e : x = y
    · rw [if_pos e, if_pos (decide_eq_true e)]
    · rw [if_neg e, if_neg (by simp [e])]
end
theorem same1_ne {d e : D} (h : same1 d e = true) : d.data ≠ .none := by
  intro z
  cases d with
  | none => simp [same1] at h
  | num i => cases z
  | text x => cases z
  | tup ks =>
    rw [NestedKey.data] at z
    cases z
section
variable {X : Cx} {pins : List (Addr × Obj)} {σ : L2.St} {H : Hp} {s : Shared}
theorem ltN_at (I : Inv X pins σ H s) {A : Around} (hu : A.units + 8 < cLine) {d e : D} {x y : V} {v u : Value} (hd : Dat H d x) (he : Dat H e y) (rx : RelV x v) (ry : RelV y u) (h : same1 d e = true) (h8 : d.depth ≤ 8) :
    SeqAt.RcLt A s v u (dlt d e) := by
  obtain ⟨as, r1⟩ := Dat.reads I hd rx
  obtain ⟨bs, r2⟩ := Dat.reads I he ry
  rw [← dlt_data d e h]
  refine PySem.W.rcLt_alike d.data e.data A s v u as bs r1 r2 (same1_alike d e h) (same1_ne h) ?_
  rw [data_depth, data_depth]
  omega
/-- x < y -/
def rLtN : R2 := fun x y H Q => ∃ d e : D, Dat H d x ∧ Dat H e y ∧ same1 d e = true ∧ d.depth ≤ 8 ∧ Q (.bl (dlt d e)) H
theorem op_ltN (hu : X.A.units + 8 < cLine) : OpR X (compareOp .Lt) rLtN := by
  intro pins s σ H x y v u Q I rx ry h
  obtain ⟨d, e, hd, he, sm, h8, q⟩ := h
  have z := ltN_at I hu hd he rx ry sm h8 X.prog X.w X.xe (EP X pins σ Q) ⟨.bl _, H, I, rfl, q⟩
  exact z
/-- x >= y of tuples of whole numbers -/
def rGeT (K : PySem.W.Frag) : R2 := fun x y H Q => ∃ (ns ms : List Int), Dat H (.tup (ns.map .num)) x ∧ Dat H (.tup (ms.map .num)) y ∧ ns.length = ms.length ∧ Q (.bl (!dltAll (ns.map .num) (ms.map .num))) H
theorem getD_cons_succ {α : Type} (x : α) (xs : List α) (i : Nat) (d : α) : (x :: xs).getD (i + 1) d = xs.getD i d := by simp
theorem lexGe : ∀ (k : Nat) (ns ms : List Int) (i : Nat), ns.length = k → ms.length = k → ∀ (pn pm : List Int), pn.length = i → pm.length = i →
    Ob.lexAt (fun j => decide ((pn ++ ns).getD j 0 = (pm ++ ms).getD j 0)) (fun j => decide ((pm ++ ms).getD j 0 ≤ (pn ++ ns).getD j 0)) true i k = !dltAll (ns.map .num) (ms.map .num)
  | 0, ns, ms, i, h1, h2, pn, pm, _, _ => by
    cases ns with
    | cons _ _ => simp at h1
    | nil =>
      cases ms with
      | cons _ _ => simp at h2
      | nil => simp [Ob.lexAt, dltAll]
  | k + 1, ns, ms, i, h1, h2, pn, pm, p1, p2 => by
    cases ns with
    | nil => simp at h1
    | cons n ns =>
      cases ms with
      | nil => simp at h2
      | cons m ms =>
        have g1 : (pn ++ n :: ns).getD i 0 = n := by
          rw [List.getD_eq_getElem?_getD, List.getElem?_append_right (by omega), p1, Nat.sub_self]
          rfl
        have g2 : (pm ++ m :: ms).getD i 0 = m := by
          rw [List.getD_eq_getElem?_getD, List.getElem?_append_right (by omega), p2, Nat.sub_self]
          rfl
        rw [Ob.lexAt_succ]
        simp only [g1, g2]
        have ih := lexGe k ns ms (i + 1) (by simpa using h1) (by simpa using h2) (pn ++ [n]) (pm ++ [m]) (by simp [p1]) (by simp [p2])
        rw [show pn ++ [n] ++ ns = pn ++ n :: ns by simp, show pm ++ [m] ++ ms = pm ++ m :: ms by simp] at ih
        rw [ih]
        simp only [List.map_cons, dltAll, dlt]
        by_cases e : n = m
        · subst e
          simp
        · have e' : ¬ (NestedKey.num n = NestedKey.num m) := fun z => e (by injection z)
          rw [if_neg e', if_neg (by simp [e])]
          by_cases l : n < m
          · have l' : ¬ m ≤ n := by omega
            simp [l, l']
          · have l' : m ≤ n := by omega
            simp [l, l']
theorem op_geT (hu : X.A.units + 8 < cLine) : OpR X (compareOp .GtE) (rGeT X.K) := by
  intro pins s σ H x y v u Q I rx ry h
  obtain ⟨ns, ms, hd, he, hl, q⟩ := h
  unfold Dat at hd he
  obtain ⟨a, vs, rfl, ha, h1⟩ := hd
  obtain ⟨b, us, rfl, hb, h2⟩ := he
  rw [dats_nums h1] at ha
  rw [dats_nums h2] at hb
  cases rx
  cases ry
  obtain ⟨its, r1, p1, _⟩ := I.tuple (SqT.of ha)
  obtain ⟨its2, r2, p2, _⟩ := I.tuple (SqT.of hb)
  have i1 : IntsAre its ns := Vals.ints r1
  have i2 : IntsAre its2 ms := Vals.ints r2
  have e1 : its.toArray.size = ns.length := by rw [List.size_toArray]; exact i1.length
  have e2 : its2.toArray.size = ms.length := by rw [List.size_toArray]; exact i2.length
  have at1 : ∀ j (g : j < its.toArray.size), ∃ t, its.toArray[j] = .int (ns.getD j 0) t := fun j g => PyProof.Rows.IntsAre.int_at i1 _ _ (by simp at g; simp [g])
  have at2 : ∀ j (g : j < its2.toArray.size), ∃ t, its2.toArray[j] = .int (ms.getD j 0) t := fun j g => PyProof.Rows.IntsAre.int_at i2 _ _ (by simp at g; simp [g])
  have R := Ob.RcOp.tuples_ge (A := X.A) (s := s) (e := fun j => decide (ns.getD j 0 = ms.getD j 0)) (r := fun j => decide (ms.getD j 0 ≤ ns.getD j 0)) p1 p2 (by omega) (fun j g1 g2 => by
    obtain ⟨t, et⟩ := at1 j g1
    obtain ⟨t', et'⟩ := at2 j g2
    rw [et, et', ← Bool.beq_eq_decide_eq]
    exact SeqAt.EqAt.int_int _ _ _ _) (fun j g1 g2 _ => by
    obtain ⟨t, et⟩ := at1 j g1
    obtain ⟨t', et'⟩ := at2 j g2
    rw [et, et']
    exact Ob.RcOp.ge_int _ _ _ _)
  rw [e1, e2, ← hl, Nat.min_self, show decide (ns.length ≥ ns.length) = true by simp] at R
  have z := lexGe ns.length ns ms 0 rfl hl.symm [] [] rfl rfl
  simp only [List.nil_append] at z
  rw [z] at R
  have fin : wpAny (model X.prog X.w) X.A (compareOp .GtE (.ref a) (.ref b)) (EP X pins σ Q) X.xe s := R X.prog X.w X.xe (EP X pins σ Q) ⟨.bl _, H, I, rfl, q⟩
  exact fin
end
end Fd

/-! Dicts whose keys are nested tuples, tracked. -/
namespace Fd
open PySem PySem.Spec PyProof.Rows L2
/-- all but p stays -/
def At1 (p : Addr) (H H' : Hp) : Prop := ∀ a, a ≠ p → H' a = H a
theorem at1_upd {H : Hp} {p : Addr} {o : HO} : At1 p H (upd H p o) := fun _ h => upd_ne h
theorem At1.same {H H' : Hp} {p : Addr} (h : At1 p H H') (n : H p = none) : Same H H' := fun b o e => by
  have hb : b ≠ p := fun z => by
    rw [z, n] at e
    cases e
  rw [h b hb]
  exact e
theorem At1.tx {H H' : Hp} {p : Addr} (h : At1 p H H') (n : ∀ xs, H p ≠ some (.tup xs)) : Tx H H' := fun b xs e => by
  have hb : b ≠ p := fun z => n xs (z ▸ e)
  rw [h b hb]
  exact e

section
variable (P : Program) (w : World)
/-- a dict's own object, its entries by key, the key's address and the value -/
def RawD (d : Addr) (xs : List (D × Addr × Value)) : Heap → Prop := fun h =>
  ∃ o es ep, h.get? d = some o ∧ o.ExactDict ∧ o.data = .dict es ep ∧ es.toList = xs.map (entryOfKey (nestedKind P w)) ∧ (xs.map (·.1)).Nodup
def DNo (d : Addr) (xs : List (D × Addr × Value)) : HO := .ext (RawD P w d xs)
abbrev KN (H : Hp) : List (D × V) → List (D × Addr × Value) → Prop := Paired fun p q => p.1 = q.1 ∧ Dat H q.1 (.ref q.2.1) ∧ Okd q.1 ∧ RelV p.2 q.2.2
/-- at d a dict with these keys and values -/
def DN (H : Hp) (d : Addr) (kvs : List (D × V)) : Prop := ∃ xs, H d = some (DNo P w d xs) ∧ (d == sysModules) = false ∧ KN H kvs xs
end
theorem dno_ok {P : Program} {w : World} {H : Hp} {h : Heap} {d : Addr} {xs : List (D × Addr × Value)} (r : RawD P w d xs h) : ObjOk P w H h d (DNo P w d xs) := by
  refine ⟨r, ?_, fun h1 h2 r1 k => ?_⟩
  · obtain ⟨o, es, ep, e, _⟩ := r
    exact ⟨o, e⟩
  · obtain ⟨o, es, ep, e, q⟩ := r1
    exact ⟨o, es, ep, k o e, q⟩
theorem dno_mut {P : Program} {w : World} {H : Hp} {d : Addr} {xs : List (D × Addr × Value)} (e : H d = some (DNo P w d xs)) : Mut (H d) := by
  rw [e]
  exact True.intro
theorem DN.ntup {P : Program} {w : World} {H : Hp} {d : Addr} {kvs : List (D × V)} (h : DN P w H d kvs) (ys : List V) : H d ≠ some (.tup ys) := by
  obtain ⟨xs, e, _⟩ := h
  rw [e]
  intro z
  cases z
theorem KN.mono {H H' : Hp} {kvs : List (D × V)} {xs : List (D × Addr × Value)} (t : Tx H H') (r : KN H kvs xs) : KN H' kvs xs := Paired.mapP r fun _ q z => ⟨z.1, Dat.mono t _ _ z.2.1, z.2.2⟩
theorem DN.keep {P : Program} {w : World} {H H' : Hp} {d : Addr} {kvs : List (D × V)} (h : DN P w H d kvs) (e : H' d = H d) (t : Tx H H') : DN P w H' d kvs := by
  obtain ⟨xs, hd, hs, r⟩ := h
  exact ⟨xs, e.trans hd, hs, r.mono t⟩
theorem DN.same {P : Program} {w : World} {H H' : Hp} {d : Addr} {kvs : List (D × V)} (h : DN P w H d kvs) (s : Same H H') : DN P w H' d kvs := by
  obtain ⟨xs, hd, hs, r⟩ := h
  exact ⟨xs, s _ _ hd, hs, r.mono (tx_same s)⟩
theorem KN.val {H : Hp} {kvs : List (D × V)} {xs : List (D × Addr × Value)} (r : KN H kvs xs) (k : D) : RelO (valV kvs k) ((atKey xs k).map (·.2)) := by
  induction r with
  | nil => exact True.intro
  | @cons p q ps qs h t ih =>
    obtain ⟨h1, _, _, h2⟩ := h
    by_cases e : p.1 = k
    · have e' : q.1 = k := h1.symm.trans e
      have b : atKey (q :: qs) k = some q.2 := by simp [atKey, List.find?_cons, e']
      rw [valV_pos e, b]
      exact h2
    · have e' : ¬ q.1 = k := fun z => e (h1.trans z)
      have b : atKey (q :: qs) k = atKey qs k := by simp [atKey, List.find?_cons, e']
      rw [valV_neg e, b]
      exact ih
theorem KN.some {H : Hp} {kvs : List (D × V)} {xs : List (D × Addr × Value)} (r : KN H kvs xs) (k : D) : (valV kvs k).isSome = (atKey xs k).isSome := by
  rw [(r.val k).isSome_eq, Option.isSome_map]
theorem KN.put {H : Hp} {kvs : List (D × V)} {xs : List (D × Addr × Value)} (r : KN H kvs xs) {k : D} {b : Addr} {y : V} {u : Value} (hb : Dat H k (.ref b)) (ok : Okd k) (ry : RelV y u) : KN H (putK kvs k y) (storedH xs k b u) := by
  unfold putK storedH
  rw [valV_any, r.some k]
  by_cases q : (atKey xs k).isSome = true
  · rw [if_pos q, if_pos q]
    clear q
    induction r with
    | nil => exact .nil
    | @cons p q ps qs h t ih =>
      rw [List.map_cons, List.map_cons]
      refine .cons ?_ ih
      obtain ⟨h1, h2, h3, h4⟩ := h
      unfold putAt
      by_cases e : p.1 = k
      · rw [if_pos e, if_pos (h1.symm.trans e)]
        exact ⟨h1, h2, h3, ry⟩
      · rw [if_neg e, if_neg (fun z => e (h1.trans z))]
        exact ⟨h1, h2, h3, h4⟩
  · rw [if_neg q, if_neg q]
    exact Paired.snoc r ⟨rfl, hb, ok, ry⟩
section
variable {X : Cx} {pins : List (Addr × Obj)} {σ : L2.St} {H : Hp} {s : Shared} {d : Addr} {kvs : List (D × V)}
theorem dat_key (I : Inv X pins σ H s) {k : D} {a : Addr} (h : Dat H k (.ref a)) (ok : Okd k) : (nestedKind X.prog X.w).is s.heap k a := ⟨Dat.nest I k _ _ h rfl, ok.2⟩
theorem DN.raw (I : Inv X pins σ H s) (h : DN X.prog X.w H d kvs) : ∃ xs, KN H kvs xs ∧ (d == sysModules) = false ∧ H d = some (DNo X.prog X.w d xs) ∧ s.heap.DictOfH (nestedKind X.prog X.w) d xs := by
  obtain ⟨xs, hd, hs, r⟩ := h
  obtain ⟨⟨o, es, ep, e1, e2, e3, e4, e5⟩, _⟩ := I.hok d _ hd
  refine ⟨xs, r, hs, hd, o, es, ep, e1, e2, e3, e4, fun x hx => ?_, e5⟩
  have all : ∀ {l : List (D × V)} {m : List (D × Addr × Value)}, KN H l m → ∀ x ∈ m, (nestedKind X.prog X.w).is s.heap x.1 x.2.1 := by
    intro l m q
    induction q with
    | nil =>
      intro x hx
      cases hx
    | cons z _ ih =>
      intro x hx
      rcases List.mem_cons.mp hx with e | hx
      · rw [e]
        exact dat_key I z.2.1 z.2.2.1
      · exact ih x hx
  exact all r x hx
theorem room9 {A : Around} (hu : A.units + 64 < cLine) : (nestedKind X.prog X.w).room A.in1 := by
  show A.in1.units + 8 < cLine
  rw [Around.in1_units]
  omega
theorem dat_ref {k : List D} {v : V} {u : Value} (h : Dat H (.tup k) v) (r : RelV v u) : ∃ a, v = .ref a ∧ u = .ref a := by
  unfold Dat at h
  obtain ⟨a, vs, rfl, _⟩ := h
  exact ⟨a, rfl, r⟩
/-- {}, to have nested keys -/
def tDNewN (P : Program) (w : World) : TE := fun _ H Q => ∀ p H', H p = none → At1 p H H' → DN P w H' p [] → Q (.ref p) H'
theorem pe_dnewN {pos : Pos} : PE X (.Dict [] [] pos) (tDNewN X.prog X.w) := ⟨fun pins s σ H Q I h => by
  have hb : (s.heap.objs.size == sysModules) = false := beq_eq_false_iff_ne.mpr (Ne.symm (Nat.ne_of_lt I.big))
  have raw : RawD X.prog X.w s.heap.objs.size [] (s.heap.push { cls := .type "dict", data := .dict #[] }) := ⟨_, #[], 0, Heap.get?_push_size _ rfl, ⟨rfl, rfl, rfl⟩, rfl, rfl, List.nodup_nil⟩
  have hn := I.hok.fresh (Nat.le_refl s.heap.objs.size)
  exact wpAny_Dict_empty ⟨.ref s.heap.objs.size, _, I.laid (a := s.heap.objs.size) (o := DNo X.prog X.w s.heap.objs.size []) (t' := s.toks) (fun _ _ q => Heap.get?_push_of_some _ q) (Nat.le_refl _) (dno_ok raw), rfl,
    h _ _ hn at1_upd ⟨[], upd_same, hb, .nil⟩⟩⟩
/-- k in d, k not in d -/
def rInDN (P : Program) (w : World) (neg : Bool) : R2 := fun x y H Q => ∃ (k : List D) (d : Addr) (kvs : List (D × V)), y = .ref d ∧ Dat H (.tup k) x ∧ Okd (.tup k) ∧ DN P w H d kvs ∧ Q (.bl (if neg = true then !(valV kvs (.tup k)).isSome else (valV kvs (.tup k)).isSome)) H
theorem op_inDN (hu : X.A.units + 64 < cLine) : OpR X (compareOp .In) (rInDN X.prog X.w false) := by
  intro pins s σ H x y v u Q I rx ry h
  obtain ⟨k, d, kvs, rfl, hk, ok, hd, q⟩ := h
  obtain ⟨a, rfl, rfl⟩ := dat_ref hk rx
  obtain ⟨xs, r, hs, _, hm⟩ := hd.raw I
  cases ry
  refine wpAny_in_heap (room9 hu) (dat_key I hk ok) hs hm ?_
  rw [← r.some]
  exact ⟨.bl _, H, I.tok _, rfl, q⟩
theorem op_notInDN (hu : X.A.units + 64 < cLine) : OpR X (compareOp .NotIn) (rInDN X.prog X.w true) := by
  intro pins s σ H x y v u Q I rx ry h
  obtain ⟨k, d, kvs, rfl, hk, ok, hd, q⟩ := h
  obtain ⟨a, rfl, rfl⟩ := dat_ref hk rx
  obtain ⟨xs, r, hs, _, hm⟩ := hd.raw I
  cases ry
  show wpAny (model X.prog X.w) X.A (do return Value.bool (!(← contains (Value.ref d) (Value.ref a)))) (EP X pins σ Q) X.xe s
  refine wpAny_bind (wpAny_contains_heap (room9 hu) (dat_key I hk ok) hs hm (wpAny_pure ?_))
  rw [← r.some]
  exact ⟨.bl _, H, I.tok _, rfl, q⟩
theorem relO_some {v : V} {o : Option Value} (r : RelO (some v) o) : ∃ u, o = some u ∧ RelV v u := by
  cases o with
  | none => exact (show False from r).elim
  | some u => exact ⟨u, rfl, r⟩
/-- d[k], there -/
def tGetN (P : Program) (w : World) (td ty : TE) : TE := fun σ H Q => td σ H fun x H1 => ty σ H1 fun y H2 => ∃ (d : Addr) (kvs : List (D × V)) (k : List D) (v : V), x = .ref d ∧ DN P w H2 d kvs ∧ Dat H2 (.tup k) y ∧ Okd (.tup k) ∧ valV kvs (.tup k) = some v ∧ Q v H2
theorem pe_getN {o i : Expr} {pos : Pos} {td ty : TE} (hu : X.A.units + 64 < cLine) (ho : PE X o td) (hi : PE X i ty) (hs : NoSl i) : PE X (.Subscript o i pos) (tGetN X.prog X.w td ty) := by
  refine ⟨fun pins s σ H Q I h => ?_⟩
  refine subD_of PySem.F.slot_dict_getitem.lookup hs (thn (ho.run pins s σ H _ I h) fun u s1 ⟨x, H1, I1, rx, q1⟩ => thn (hi.run pins s1 σ H1 _ I1 q1) fun iv s2 ⟨y, H2, I2, ry, d, kvs, k, v, ex, hd, hk, ok, hv, q2⟩ => ?_)
  subst ex
  obtain rfl : u = Value.ref d := rx
  obtain ⟨a, rfl, rfl⟩ := dat_ref hk ry
  obtain ⟨xs, r, hs', _, hm⟩ := hd.raw I2
  have z := r.val (.tup k)
  rw [hv] at z
  obtain ⟨u', hu', ru⟩ := relO_some z
  obtain ⟨p, hp, e⟩ := Option.map_eq_some_iff.mp hu'
  subst e
  exact ⟨hm.typeIs, wpAny_getItem_heap (room9 hu) (dat_key I2 hk ok) hm hp ⟨v, H2, I2.tok _, ru, q2⟩⟩
/-- the store itself -/
theorem putN_run {A : Around} {E : Value → Shared → Prop} {k : List D} {y v : V} {u r : Value} {Q : Unit → Shared → Prop} (hu : A.units + 64 < cLine) (I : Inv X pins σ H s) (hd : DN X.prog X.w H d kvs) (hk : Dat H (.tup k) y) (ok : Okd (.tup k)) (ry : RelV y u) (rv : RelV v r) (hz : kvs.length < sizeLine)
    (h : ∀ s' H', At1 d H H' → DN X.prog X.w H' d (putK kvs (.tup k) v) → Inv X pins σ H' s' → Q () s') : wpAny (model X.prog X.w) A (setItem (.ref d) u r) Q E s := by
  obtain ⟨a, rfl, rfl⟩ := dat_ref hk ry
  obtain ⟨xs, rr, hs, e, hm⟩ := hd.raw I
  have hzx : xs.length ≤ sizeLine := by
    rw [← Paired.length rr]
    omega
  refine wpAny_setItem_heap (hsz := hzx) (room9 (X := X) hu) (dat_key I hk ok) hm fun h' hm' sb => ?_
  obtain ⟨q, es, ep, hq, h2, h3, h4, _, h5⟩ := hm'
  refine h _ (upd H d (DNo X.prog X.w d (storedH xs (.tup k) a r))) at1_upd ⟨_, upd_same, hs, (rr.put hk ok rv).mono (tx_upd fun ys z => ?_)⟩ (d_write I (dno_mut e) sb ⟨q, hq⟩ (dno_ok ⟨q, es, ep, hq, h2, h3, h4, h5⟩))
  rw [e] at z
  cases z
/-- d[k] = v -/
def sPutN (P : Program) (w : World) (td ty tv : TE) : TS := fun D' σ H => tv σ H fun v H1 => td σ H1 fun x H2 => ty σ H2 fun y H3 => ∃ (d : Addr) (kvs : List (D × V)) (k : List D), x = .ref d ∧ DN P w H3 d kvs ∧ Dat H3 (.tup k) y ∧ Okd (.tup k) ∧ kvs.length < sizeLine ∧
  ∀ H4, At1 d H3 H4 → DN P w H4 d (putK kvs (.tup k) v) → D'.nx σ H4
theorem ps_putN {o i value : Expr} {pos pos' : Pos} {td ty tv : TE} (hu : X.A.units + 64 < cLine) (ho : PE X o td) (hi : PE X i ty) (hv : PE X value tv) (hs : swapsWith value (some (.Subscript o i pos')) pos.line X.env = pure false) :
    PS X (.Assign [.Subscript o i pos'] value pos) (sPutN X.prog X.w td ty tv) := by
  refine ⟨fun pins s σ H D' I h => ?_⟩
  refine wpAny_Assign_Subscript (thn (hv.run pins s σ H _ I h) fun r s1 ⟨v, H1, I1, rv, q1⟩ => thn (ho.run pins s1 σ H1 _ I1 q1) fun u s2 ⟨x, H2, I2, rx, q2⟩ => thn (hi.run pins s2 σ H2 _ I2 q2) fun iv s3 ⟨y, H3, I3, ry, d, kvs, k, ex, hd, hk, ok, hz, q3⟩ => ?_) hs
  subst ex
  obtain rfl : u = Value.ref d := rx
  exact putN_run hu I3 hd hk ok ry rv hz fun s4 H4 a4 d4 I4 => ⟨σ, H4, I4, q3 H4 a4 d4⟩
/-- d.get(k, x) -/
def tGet2N (P : Program) (w : World) (td ty tx : TE) : TE := fun σ H Q => td σ H fun x H1 => ∃ d : Addr, x = .ref d ∧ (∃ kvs, DN P w H1 d kvs) ∧ ty σ H1 fun y H2 => tx σ H2 fun z H3 => ∃ (kvs : List (D × V)) (k : List D), DN P w H3 d kvs ∧ Dat H3 (.tup k) y ∧ Okd (.tup k) ∧ Q ((valV kvs (.tup k)).getD z) H3
theorem DN.kind (I : Inv X pins σ H s) (h : DN X.prog X.w H d kvs) : s.TypeIs (.ref d) "dict" ∧ ∀ b, Value.ref d = .ref b → ∃ ob, s.heap.get? b = some ob ∧ ob.dict = none := by
  obtain ⟨xs, _, _, _, hm⟩ := h.raw I
  refine ⟨hm.typeIs, fun b q => ?_⟩
  cases q
  obtain ⟨ob, _, _, h1, h2, _⟩ := hm
  exact ⟨ob, h1, h2.2.1⟩
theorem pe_get2N {o e f : Expr} {apos cpos : Pos} {td ty tx : TE} (hu : X.A.units + 64 < cLine) (ho : PE X o td) (he : PE X e ty) (hf : PE X f tx) (m : M2 X o "get" apos e f cpos) : PE X (.Call (.Attribute o "get" apos) [e, f] [] cpos) (tGet2N X.prog X.w td ty tx) := by
  refine ⟨fun pins s σ H Q I h => ?_⟩
  refine wpAny_Call_method m.base m.few m.line PySem.F.plainAttrs_dict PySem.F.slot_dict_get PySem.F.type_dict_get (thn (ho.run pins s σ H _ I h) fun u s1 ⟨x, H1, I1, rx, d, ex, ⟨kv0, hd0⟩, q1⟩ => ?_)
  subst ex
  obtain rfl : u = Value.ref d := rx
  obtain ⟨t1, t2⟩ := hd0.kind I1
  refine ⟨t1, t2, ?_⟩
  rw [m.trees]
  refine Calls.callWith_builtin rfl (Calls.evalArgs_plain (Calls.spliced_cons (thn (he.run pins s1 σ H1 _ I1 q1) fun iv s2 ⟨y, H2, I2, ry, q2⟩ =>
    Calls.spliced_cons (thn (hf.run pins s2 σ H2 _ I2 q2) fun fv s3 ⟨z, H3, I3, rz, kvs, k, hd, hk, ok, q3⟩ => Calls.spliced_nil ?_))))
  obtain ⟨a, rfl, rfl⟩ := dat_ref hk ry
  obtain ⟨xs, r, hs, _, hm⟩ := hd.raw I3
  exact call_meetsIn F.slot_dict_get hm.typeIs F.entry_dict_get (F.args_dict_get_3 _ _ _) (meetsH_dict_get_default (nestedKind X.prog X.w) d a hs fv) ⟨room9 hu, .tup k, xs, dat_key I3 hk ok, hm, ⟨_, H3, I3.tok _, (r.val (.tup k)).getD rz, q3⟩⟩
/-- d.setdefault(k, x) -/
def tSetdN (P : Program) (w : World) (td ty tx : TE) : TE := fun σ H Q => td σ H fun x H1 => ∃ d : Addr, x = .ref d ∧ (∃ kvs, DN P w H1 d kvs) ∧ ty σ H1 fun y H2 => tx σ H2 fun z H3 => ∃ (kvs : List (D × V)) (k : List D), DN P w H3 d kvs ∧ Dat H3 (.tup k) y ∧ Okd (.tup k) ∧ kvs.length < sizeLine ∧
  (∀ v, valV kvs (.tup k) = some v → Q v H3) ∧ (valV kvs (.tup k) = none → ∀ H4, At1 d H3 H4 → DN P w H4 d (putK kvs (.tup k) z) → Q z H4)
theorem pe_setdN {o e f : Expr} {apos cpos : Pos} {td ty tx : TE} (hu : X.A.units + 64 < cLine) (ho : PE X o td) (he : PE X e ty) (hf : PE X f tx) (m : M2 X o "setdefault" apos e f cpos) : PE X (.Call (.Attribute o "setdefault" apos) [e, f] [] cpos) (tSetdN X.prog X.w td ty tx) := by
  refine ⟨fun pins s σ H Q I h => ?_⟩
  refine wpAny_Call_method m.base m.few m.line PySem.F.plainAttrs_dict PySem.F.slot_dict_setdefault PySem.F.type_dict_setdefault (thn (ho.run pins s σ H _ I h) fun u s1 ⟨x, H1, I1, rx, d, ex, ⟨kv0, hd0⟩, q1⟩ => ?_)
  subst ex
  obtain rfl : u = Value.ref d := rx
  obtain ⟨t1, t2⟩ := hd0.kind I1
  refine ⟨t1, t2, ?_⟩
  rw [m.trees]
  refine Calls.callWith_builtin rfl (Calls.evalArgs_plain (Calls.spliced_cons (thn (he.run pins s1 σ H1 _ I1 q1) fun iv s2 ⟨y, H2, I2, ry, q2⟩ =>
    Calls.spliced_cons (thn (hf.run pins s2 σ H2 _ I2 q2) fun fv s3 ⟨z, H3, I3, rz, kvs, k, hd, hk, ok, hz, q3, q4⟩ => Calls.spliced_nil ?_))))
  obtain ⟨a, rfl, rfl⟩ := dat_ref hk ry
  obtain ⟨xs, rr, hs, e3, hm⟩ := hd.raw I3
  have hzx : xs.length ≤ sizeLine := by
    rw [← Paired.length rr]
    omega
  refine call_setdefault_heap (hsz := hzx) (room9 hu) (dat_key I3 hk ok) hs hm (fun p hp => ?_) fun hn h' hm' sb => ?_
  · have zz := rr.val (.tup k)
    rw [hp] at zz
    cases q0 : valV kvs (.tup k) with
    | none =>
      rw [q0] at zz
      exact (show False from zz).elim
    | some v0 =>
      rw [q0] at zz
      exact ⟨v0, H3, I3.tok _, zz, q3 v0 q0⟩
  · have hnone : valV kvs (.tup k) = none := by
      have zz := rr.some (.tup k)
      rw [hn] at zz
      cases q0 : valV kvs (.tup k) with
      | none => rfl
      | some v0 =>
        rw [q0] at zz
        cases zz
    obtain ⟨q, es, ep, hq, h2, h3, h4, _, h5⟩ := hm'
    refine ⟨z, upd H3 d (DNo X.prog X.w d (storedH xs (.tup k) a fv)), d_write (t' := s3.toks + (nestedKind X.prog X.w).draws (.tup k)) I3 (dno_mut e3) sb ⟨q, hq⟩ (dno_ok ⟨q, es, ep, hq, h2, h3, h4, h5⟩), rz, q4 hnone _ at1_upd ⟨_, upd_same, hs, (rr.put hk ok rz).mono (tx_upd fun ys w' => ?_)⟩⟩
    rw [e3] at w'
    cases w'
end
end Fd

/-! The walk of a dict with nested keys by items(), and the comprehension that makes one. -/
namespace Fd
open PySem PySem.Spec PyProof.Rows L2
/-- the entries of the dict at d, which stands as o -/
def ItN (P : Program) (w : World) (d : Addr) (o : Obj) (xs : List (D × Addr × Value)) : It :=
  ⟨fun i H => H d = some (.frz o (DNo P w d xs)) ∧ i < xs.length, fun i H x H' => ∃ T e v, xs[i]? = some e ∧ x = .ref T ∧ H T = none ∧ RelV v e.2.2 ∧ H' = upd H T (.tup [.ref e.2.1, v]), fun i H => H d = some (.frz o (DNo P w d xs)) ∧ xs.length ≤ i⟩
theorem frzN {X : Cx} {pins : List (Addr × Obj)} {σ : L2.St} {H : Hp} {s : Shared} {d : Addr} {o : Obj} {xs : List (D × Addr × Value)} (I : Inv X pins σ H s) (h : H d = some (.frz o (DNo X.prog X.w d xs))) :
    s.heap.get? d = some o ∧ o.ExactDict ∧ ∃ es ep, o.data = .dict es ep ∧ es.toList = xs.map (entryOfKey (nestedKind X.prog X.w)) ∧ es.size = xs.length := by
  obtain ⟨g, ⟨o', es, ep, e1, e2, e3, e4, e5⟩, _⟩ := I.hok d _ h
  rw [g] at e1
  cases e1
  refine ⟨g, e2, es, ep, e3, e4, ?_⟩
  have := congrArg List.length e4
  simpa using this
theorem turnN {P : Program} {w : World} {K : PySem.W.Frag} {d : Addr} {o : Obj} {xs : List (D × Addr × Value)} {es : Array DictEntry} {ep : Nat} {elts : List Expr} {kk : Nat} {tpos : Pos} (it : Addr) (hod : o.data = .dict es ep) (hv : ∀ e ∈ xs, ∃ v, RelV v e.2.2) :
    Turn P w K (.Tuple elts kk tpos) (ItN P w d o xs) [it] it (fun i h => ∃ ok ov, IsItemIter h it d i xs.length ep ok ov) where
  mem := by simp
  obj := fun i h st b hb => by
    have e : b = it := by simpa using hb
    subst e
    obtain ⟨ok, ov, e⟩ := st
    exact ⟨_, e, fun v z => nomatch z⟩
  keep := fun i h h' st k => let ⟨ok, ov, e⟩ := st; ⟨ok, ov, k it (by simp) _ e⟩
  item := by
    intro X hP hw hK hc i pins s σ H E I hf st hg
    subst hP hw hK
    obtain ⟨hd, hi⟩ := hg
    obtain ⟨g, ex, es', ep', hdt, hes, hsz⟩ := frzN I hd
    obtain ⟨rfl, rfl⟩ := dict_ep hod hdt
    obtain ⟨e, he⟩ : ∃ p, xs[i]? = some p := ⟨xs[i], List.getElem?_eq_getElem hi⟩
    have hie : i < es'.size := by omega
    have hent : es'[i] = entryOfKey (nestedKind X.prog X.w) e := by
      have h1 := entry_at hes i
      rw [he, Array.getElem?_eq_getElem hie] at h1
      exact Option.some.inj h1
    obtain ⟨ok, ov, hit⟩ := st
    rw [← hsz] at hit
    have hlt : it < s.heap.objs.size := Heap.lt_size hit
    refine wpAny_pyNext_items_item_raw hit ⟨_, g, ex, hdt⟩ hie fun h' ho hT hz hk => ?_
    refine ⟨_, rfl, wpAny_letOwnedTupleGo_items (s := { s with heap := h' }) ho fun h'' he' sb => ?_⟩
    rw [hent] at hT he'
    obtain ⟨v, rv⟩ := hv e (List.mem_of_getElem? he)
    have hT2 : h''.get? s.heap.objs.size = some { cls := .type "tuple", data := .seq #[(entryOfKey (nestedKind X.prog X.w) e).key, (entryOfKey (nestedKind X.prog X.w) e).val] } := (sb.2 _ (Nat.ne_of_gt hlt)).trans hT
    have new : ObjOk X.prog X.w (upd H s.heap.objs.size (.tup [.ref e.2.1, v])) h'' s.heap.objs.size (.tup [.ref e.2.1, v]) :=
      ⟨by show 2 ≤ sizeLine; decide, [.ref e.2.1, e.2.2], .cons rfl (.cons rv .nil), ⟨_, hT2, rfl, _, rfl⟩⟩
    have I1 : Inv X pins σ (upd H s.heap.objs.size (.tup [.ref e.2.1, v])) { s with heap := h'' } :=
      I.turnedNew (t' := s.toks) (ch := [it]) (fun b ob hb z => (sb.2 b (by simpa using hb)).trans (hk b ob (by simpa using hb) z)) hf (Nat.le_refl _) new
    refine ⟨.ref s.heap.objs.size, _, I1, rfl, ⟨_, e, v, he, rfl, I.hok.fresh (Nat.le_refl _), rv, rfl⟩, ⟨(entryOfKey (nestedKind X.prog X.w) e).key, (entryOfKey (nestedKind X.prog X.w) e).val, hsz ▸ he'⟩, fun b hb => ?_⟩
    · have z : b = it := by simpa using hb
      rw [z, upd_ne (Nat.ne_of_lt hlt)]
      exact (hf it (by simp)).1
  done := by
    intro X hP hw hK hc i pins s σ H E I hf st hg
    subst hP hw hK
    obtain ⟨hd, hi⟩ := hg
    obtain ⟨f0, f1, f2, f3, f4, f5⟩ := hf it (by simp)
    obtain ⟨g, ex, es', ep', hdt, hes, hsz⟩ := frzN I hd
    obtain ⟨rfl, rfl⟩ := dict_ep hod hdt
    obtain ⟨ok, ov, hit⟩ := st
    rw [← hsz] at hit
    exact wpAny_pyNext_items_end_raw (I.ok.hd hc) hit ⟨_, g, ex, hdt⟩ (by omega) fun h' eb => ⟨rfl, I.turned (t' := s.toks) (fun b ob hb e => eb b ob hb e) f0 f1 f3 f4 f5⟩
  self := fun A i s Q E st h => let ⟨_, _, e⟩ := st; wpAny_pyIter_itemiter e h
/-- the dict is locked from here on -/
def iItemsN (P : Program) (w : World) (td : TE) : TI := fun σ H R => td σ H fun x H1 => ∃ (d : Addr) (kvs : List (D × V)), x = .ref d ∧ DN P w H1 d kvs ∧
  ∀ o xs, KN H1 kvs xs → R (ItN P w d o xs) (upd H1 d (.frz o (DNo P w d xs)))
theorem pi_itemsN {X : Cx} {e : Expr} {td : TE} {apos cpos : Pos} {elts : List Expr} {kk : Nat} {tpos : Pos} (he : PE X e td) (hbase : attributeBase e "items" X.env (eval e X.env) = eval e X.env := by rfl) (hline : (apos.endLine == cpos.line) = true := by rfl) :
    PI X (.Tuple elts kk tpos) (.Call (.Attribute e "items" apos) [] [] cpos) (iItemsN X.prog X.w td) := by
  refine ⟨fun pins s σ H R I h => ?_⟩
  refine wpAny_Call_method (T := "dict") (id := "dict.items") hbase rfl hline F.plainAttrs_dict F.slot_dict_items F.type_dict_items (thn (he.run pins s σ H _ I h) fun u s1 ⟨x, H1, I1, rx, d, kvs, ex, hd, q⟩ => ?_)
  subst ex
  obtain rfl : u = Value.ref d := rx
  obtain ⟨xs, r, hs, hdx, hm⟩ := hd.raw I1
  obtain ⟨o, es, ep, e1, e2, e3, e4, e5, e6⟩ := id hm
  have lock : Inv X pins σ (upd H1 d (.frz o (DNo X.prog X.w d xs))) s1 :=
    I1.write (x := d) (e := d) (t' := s1.toks) (dno_mut hdx) (.inl rfl) (fun _ _ _ z => z) ⟨o, e1⟩ ⟨e1, dno_ok ⟨o, es, ep, e1, e2, e3, e4, e6⟩⟩
  have hsz : es.size = xs.length := by
    have := congrArg List.length e4
    simpa using this
  have hv : ∀ e ∈ xs, ∃ v, RelV v e.2.2 := by
    clear hdx hm e4 e5 e6 lock hsz hd q
    induction r with
    | nil =>
      intro e z
      cases z
    | @cons p q ps qs h t ih =>
      intro e z
      rcases List.mem_cons.mp z with z | z
      · subst z
        exact ⟨p.2, h.2.2.2⟩
      · exact ih e z
  refine ⟨hm.typeIs, ?_, ?_⟩
  · intro b z
    cases z
    exact ⟨o, e1, e2.2.1⟩
  have I2 : Inv X pins σ (upd H1 d (.frz o (DNo X.prog X.w d xs))) { s1 with heap := s1.heap.push { cls := .type "dict_items", data := .fields #[.ref d] } } := lock.kept (t' := s1.toks) fun b ob z => Heap.get?_push_of_some _ z
  have raw2 : (s1.heap.push { cls := .type "dict_items", data := .fields #[.ref d] }).DictRaw d es ep := ⟨o, Heap.get?_push_of_some _ e1, e2, e3⟩
  have fin : wpAny (model X.prog X.w) X.A (pyIter (.ref s1.heap.objs.size)) (PIE X pins σ (.Tuple elts kk tpos) R) X.xe { s1 with heap := s1.heap.push { cls := .type "dict_items", data := .fields #[.ref d] } } := by
    refine wpAny_pyIter_items_raw (d := d) ⟨_, Heap.get?_push_size _ rfl, rfl, rfl⟩ raw2 (pi_one (tk := s1.toks) I2 _ (turnN _ e3 hv) ⟨.none, .none, ?_⟩ (q o xs r))
    rw [← hsz]
    exact Heap.get?_push_size _ rfl
  show wpAny _ _ (callWith cpos (.builtin "dict.items") [.ref d] [] []) _ X.xe s1
  exact method_meetsIn F.slot_dict_items F.entry_dict_items rfl (PySem.evalArgs_none ⟨rfl, hm.typeIs, F.args_dict_items_1 _, _, meets_dict_items_raw d hs, ⟨es, ep, o, e1, e2, e3⟩, fin⟩)
theorem kn_get {H : Hp} {kvs : List (D × V)} {xs : List (D × Addr × Value)} (r : KN H kvs xs) : ∀ {i : Nat} {e : D × Addr × Value}, xs[i]? = some e → ∃ v, kvs[i]? = some (e.1, v) ∧ Dat H e.1 (.ref e.2.1) ∧ Okd e.1 ∧ RelV v e.2.2 := by
  induction r with
  | nil =>
    intro i e z
    simp at z
  | @cons p q ps qs h t ih =>
    intro i e z
    cases i with
    | zero =>
      have z' : q = e := by simpa using z
      subst z'
      obtain ⟨h1, h2, h3, h4⟩ := h
      exact ⟨p.2, by simp [← h1], h2, h3, h4⟩
    | succ i =>
      obtain ⟨v, a, b⟩ := ih (i := i) (e := e) (by simpa using z)
      exact ⟨v, by simpa using a, b⟩
/-- what the walk gives, told by the keys and values at its begin -/
theorem walk_N {P : Program} {w : World} {H0 : Hp} {d : Addr} {o : Obj} {kvs : List (D × V)} {xs : List (D × Addr × Value)} (r : KN H0 kvs xs) :
    Walk (ItN P w d o xs) kvs.length (fun H => H d = some (.frz o (DNo P w d xs))) (fun i H x H' => ∃ T k b v, kvs[i]? = some (k, v) ∧ Dat H0 k (.ref b) ∧ x = .ref T ∧ H T = none ∧ H' = upd H T (.tup [.ref b, v])) := by
  have hl : kvs.length = xs.length := Paired.length r
  refine ⟨fun i H hi q => ⟨q, by omega⟩, fun H q => ⟨q, by omega⟩, fun i H x H' hi q y => ?_⟩
  obtain ⟨T, e, v, he, hx, hT, rv, hH⟩ := y
  obtain ⟨v', h1, h2, _, h4⟩ := kn_get r he
  have ev : v' = v := h4.inj rv
  subst ev
  exact ⟨T, e.1, e.2.1, v', h1, h2, hx, hT, hH⟩
end Fd

/-! {k: v for target in iter}, the keys nested tuples. -/
namespace Fd
open PySem PySem.Spec PyProof.Rows L2
section
variable {X : Cx} {pins : List (Addr × Obj)} {σ : L2.St} {H : Hp} {s : Shared}
/-- the comprehension's own store -/
theorem setN_run {d : Addr} {kvs : List (D × V)} {E : Value → Shared → Prop} {k : List D} {y v : V} {u r : Value} {Q : Unit → Shared → Prop} (hu : X.A.units + 64 < cLine) (I : Inv X pins σ H s) (hd : DN X.prog X.w H d kvs) (hk : Dat H (.tup k) y) (ok : Okd (.tup k)) (ry : RelV y u) (rv : RelV v r)
    (hz : kvs.length < sizeLine) (h : ∀ s' H', At1 d H H' → DN X.prog X.w H' d (putK kvs (.tup k) v) → Inv X pins σ H' s' → Q () s') : wpAny (model X.prog X.w) X.A (dictSet d u r) Q E s := by
  obtain ⟨a, rfl, rfl⟩ := dat_ref hk ry
  obtain ⟨xs, rr, hs, e, hm⟩ := hd.raw I
  have hzx : xs.length ≤ sizeLine := by
    rw [← Paired.length rr]
    omega
  have room : (nestedKind X.prog X.w).room X.A := by
    show X.A.units + 8 < cLine
    omega
  refine wpAny_dictSet_heap (hsz := hzx) room (dat_key I hk ok) hm fun h' hm' sb => ?_
  obtain ⟨q, es, ep, hq, h2, h3, h4, _, h5⟩ := hm'
  refine h _ (upd H d (DNo X.prog X.w d (storedH xs (.tup k) a r))) at1_upd ⟨_, upd_same, hs, (rr.put hk ok rv).mono (tx_upd fun ys z => ?_)⟩ (d_write I (dno_mut e) sb ⟨q, hq⟩ (dno_ok ⟨q, es, ep, hq, h2, h3, h4, h5⟩))
  rw [e] at z
  cases z
/-- where a block stands between two turns -/
def Mid (B : Cx) (τ : L2.St) (tn : Nat → Heap → Prop) (W : Nat → Nat → Hp → Prop) (n : Nat) (s' : Shared) : Prop :=
  ∃ i H', Inv B [] τ H' s' ∧ tn i s'.heap ∧ (∀ b ∈ B.ex, H' b = none) ∧ W i n H'
theorem mid_fp {B : Cx} {τ : L2.St} (hp : B.pn = []) (I : Inv B [] τ H s) (hn : ∀ b ∈ B.ex, H b = none) : ∀ b ∈ B.ex, FpOk B [] H b := fun b hb =>
  ⟨hn b hb, (I.ok.exf b hb).1, I.ok.exfs b hb, .inl hb, (I.ok.exf b hb).2, fun p z => by
    rw [hp] at z
    exact absurd z (by simp)⟩
/-- a turn's end: the iterator's objects stand as they were pinned -/
theorem mid_again {B : Cx} {τ τ' : L2.St} {K : PySem.W.Frag} {tg : Expr} {J : It} {it : Addr} {tn : Nat → Heap → Prop} {W : Nat → Nat → Hp → Prop} {vs : List Nat} {i m n : Nat} {h0 : Heap} {s' : Shared} {H' : Hp}
    (T : Turn B.prog B.w K tg J B.ex it tn) (st : tn (i + 1) h0) (hw : wipe τ' vs = wipe τ vs) (I : Inv B ([] ++ pinsAt B.ex h0) τ' H' s') (hm : m < n) (w : W (i + 1) m H') : ∃ m, m < n ∧ Mid B (wipe τ vs) tn W m s' := by
  have stands : ∀ b ∈ B.ex, ∀ o, h0.get? b = some o → s'.heap.get? b = some o ∧ H' b = none := fun b hb o e => by
    have z := I.pin (b, o) (List.mem_append_right _ (List.mem_append_right _ (mem_pinsAt hb e)))
    exact ⟨z.1, z.2.1⟩
  have len : (wipe τ vs).length = τ'.length := by rw [← hw, wipe_length]
  have I0 : Inv B [] (wipe τ vs) H' s' := (I.unpinned (pins := [])).weak len fun j v e => by
    rw [← hw] at e
    exact (wipe_some e).1
  refine ⟨m, hm, i + 1, H', I0, T.keep _ _ _ st fun b hb o e => (stands b hb o e).1, fun b hb => ?_, w⟩
  obtain ⟨o, e, _⟩ := T.obj _ _ st b hb
  exact (stands b hb o e).2
/-- D: the new dict -/
def tDcN (P : Program) (w : World) (wi : TI) (g : TG) (tk tv : TE) (vs : List Nat) : TE := fun σ H Q => wi σ H fun J H1 => ∀ D H2, H1 D = none → At1 D H1 H2 → DN P w H2 D [] → ∃ W : Nat → Nat → Hp → Prop, (∃ m, W 0 m H2) ∧ ∀ i m H, W i m H →
  (J.stop i H ∧ Q (.ref D) H) ∨ (J.go i H ∧ ∃ Nx : Hp → Prop, (∀ H', Nx H' → ∃ m', m' < m ∧ W (i + 1) m' H') ∧ ∀ x H', J.yld i H x H' → g x (wipe σ vs) H' fun σ2 H3 => wipe σ2 vs = wipe σ vs ∧
    tk σ2 H3 fun y H4 => tv σ2 H4 fun z H5 => ∃ kvs k, DN P w H5 D kvs ∧ Dat H5 (.tup k) y ∧ Okd (.tup k) ∧ kvs.length < sizeLine ∧ ∀ H6, At1 D H5 H6 → DN P w H6 D (putK kvs (.tup k) z) → Nx H6)
theorem dcN_core {pins : List (Addr × Obj)} {s : Shared} {σ : L2.St} {H : Hp} {Q : VK} {kx vx tg iter : Expr} {scope : Scope} {own : List (Str × Nat)} {pos pos' : Pos} {wi : TI} {g : TG} {tk tv : TE} {use : Option (Value → Sem Unit)} {Qf : Value → Shared → Prop} (hu : X.A.units + 64 < cLine) (hc : X.calm = true) (hN : X.N.Nodup) (I : Inv X pins σ H s) (hi : PI X tg iter wi) (ok : BlkOk X.N X.env.scope scope own)
    (hg : ∀ (s : Shared) (H : Hp) (C : Addr) (cl : List (Str × Addr)) (fp : List Addr), PG (X.blk s H scope (compEnvC scope cl C X.env) fp) tg g)
    (hk : ∀ (s : Shared) (H : Hp) (C : Addr) (cl : List (Str × Addr)) (fp : List Addr), PE (X.blk s H scope (compEnvC scope cl C X.env) fp) kx tk)
    (he : ∀ (s : Shared) (H : Hp) (C : Addr) (cl : List (Str × Addr)) (fp : List Addr), PE (X.blk s H scope (compEnvC scope cl C X.env) fp) vx tv) (hs : ∀ x, foldedSetIterable iter X.env x = pure x)
    (h : tDcN X.prog X.w wi g tk tv (own.map (·.2)) σ H Q)
    (hRR : ∀ D C s' m H', Inv X pins σ H' s' → Q (.ref D) H' → s'.heap.Ns C m → FpOk X pins H' C → compPost (model X.prog X.w) X.A X.xe use Qf (.ref D) C (.ok .next) s') :
    wpAny (model X.prog X.w) X.A (comprehension (.DictComp kx vx [⟨tg, iter, [], 0⟩] scope pos) scope X.env pos' newDict false (eval iter X.env) use) Qf X.xe s := by
  have frees : ∀ y ∈ scope.names, y.2 = .free → ∃ c, X.env.cells.lookup y.1 = some c := fun y hy e => (ok.free y hy e).elim (fun k => I.ok.has _ (.inl k)) fun k => I.ok.has _ (.inr k)
  refine wpAny_comprehension_free (use := use) rfl hs (closure_ok frees) ok.kind (fun y hy e => (ok.uniq y hy).trans (congrArg some e)) ?_
  refine thn (hi.run pins s σ H _ I h) fun xv s1 hx => thn hx fun itv s2 h2 => ?_
  obtain ⟨it, fp, tn, J, H2, rfl, I2, T, st2, f2, q⟩ := h2
  refine wpAny_newObj_type (newEnv_comp ?_)
  -- the new dict stands at the heap's end
  have D0 : H2 s2.heap.objs.size = none := I2.hok.fresh (Nat.le_refl _)
  have D1 : (s2.heap.objs.size == sysModules) = false := beq_eq_false_iff_ne.mpr (Ne.symm (Nat.ne_of_lt I2.big))
  obtain ⟨W, ⟨m0, w0⟩, turn⟩ := q s2.heap.objs.size (upd H2 s2.heap.objs.size (DNo X.prog X.w s2.heap.objs.size [])) D0 at1_upd ⟨[], upd_same, D1, .nil⟩
  have I3 : Inv X pins σ (upd H2 s2.heap.objs.size (DNo X.prog X.w s2.heap.objs.size [])) { s2 with heap := s2.heap.push { cls := .type "dict", data := .dict #[] } } :=
    I2.laid (t' := s2.toks) (fun b o e => Heap.get?_push_of_some _ e) (Nat.le_refl _) (dno_ok ⟨_, #[], 0, Heap.get?_push_size _ rfl, ⟨rfl, rfl, rfl⟩, rfl, rfl, List.nodup_nil⟩)
  have low : ∀ b ∈ fp, b < s2.heap.objs.size := fun b hb => (T.obj _ _ st2 b hb).elim fun o e => Heap.lt_size e.1
  have st3 : tn 0 (s2.heap.push { cls := .type "dict", data := .dict #[] }) := T.keep _ _ _ st2 fun b _ o e => Heap.get?_push_of_some _ e
  generalize hD : s2.heap.objs.size = Da at *
  generalize hH3 : upd H2 Da (DNo X.prog X.w Da []) = H3 at *
  generalize hs3 : ({ s2 with heap := s2.heap.push { cls := .type "dict", data := .dict #[] } } : Shared) = s3 at *
  have h3 : s3.heap = s2.heap.push { cls := .type "dict", data := .dict #[] } := by rw [← hs3]
  rw [← h3] at st3
  show codeAny _ _ (.compStart (.DictComp kx vx [⟨tg, iter, [], 0⟩] scope pos) 0 (.ref it) (.ref Da) (compEnvC scope (cellsFrom (s3.heap.objs.size + 1) scope.names (cloFrom X.env.cells scope.names [])) s3.heap.objs.size X.env)) (compPost (model X.prog X.w) X.A X.xe use Qf (.ref Da) s3.heap.objs.size) _
  have f3 : ∀ b ∈ fp, FpOk X pins H3 b ∧ b < s3.heap.objs.size := fun b hb => by
    refine ⟨⟨?_, (f2 b hb).2⟩, ?_⟩
    · rw [← hH3, upd_ne (Nat.ne_of_lt (low b hb))]
      exact (f2 b hb).1
    · rw [h3, Heap.size_push, hD]
      exact Nat.lt_succ_of_lt (low b hb)
  -- the block
  have I4 := block_start I3 ok hN f3
  generalize hcl : cellsFrom (s3.heap.objs.size + 1) scope.names (cloFrom X.env.cells scope.names []) = cl at *
  have pg := hg s3 H3 s3.heap.objs.size cl fp
  have pk := hk s3 H3 s3.heap.objs.size cl fp
  have pv := he s3 H3 s3.heap.objs.size cl fp
  have st4 : tn 0 (pushCells (s3.heap.push { cls := .type "dict", data := .dict #[] }) scope.names) := T.keep _ _ _ st3 fun b _ o e => pushCells_keeps _ _ _ _ (Heap.get?_push_of_some _ e)
  generalize hB : X.blk s3 H3 scope (compEnvC scope cl s3.heap.objs.size X.env) fp = B at I4 pg pk pv
  have bex : B.ex = fp := by rw [← hB]
  have bpn : B.pn = [] := by rw [← hB]
  have benv : B.env = compEnvC scope cl s3.heap.objs.size X.env := by rw [← hB]
  have bpr : B.prog = X.prog := by rw [← hB]
  have bw : B.w = X.w := by rw [← hB]
  have bK : B.K = X.K := by rw [← hB]
  have bA : B.A = X.A := by rw [← hB]
  have bxe : B.xe = fun _ _ => False := by rw [← hB]
  have bca : B.calm = true := by
    rw [← hB]
    exact hc
  have T' : Turn B.prog B.w X.K tg J B.ex it tn := by
    rw [bpr, bw, bex]
    exact T
  have loop : codeAny (model X.prog X.w) X.A (.compLoop (.DictComp kx vx [⟨tg, iter, [], 0⟩] scope pos) 0 (.ref it) (.ref Da) (compEnvC scope cl s3.heap.objs.size X.env)) (compPost (model X.prog X.w) X.A X.xe use Qf (.ref Da) s3.heap.objs.size)
      { s3 with heap := pushCells (s3.heap.push { cls := .type "dict", data := .dict #[] }) scope.names } := by
    refine compLoop_anyD (Mid B (wipe σ (own.map (·.2))) tn W) ?_ m0 ⟨0, H3, I4, st4, fun b hb => (f3 b (bex ▸ hb)).1.1, w0⟩
    rintro n s5 ⟨i, H5, I5, st5, n5, w5⟩
    have fp5 := mid_fp bpn I5 n5
    rcases turn i n H5 w5 with ⟨stop, fin⟩ | ⟨go, Nx, hNx, step⟩
    · have td := T.done B bpr bw bK bca i [] s5 _ H5 (fun _ _ => False) I5 (bex ▸ fp5) st5 stop
      rw [bA] at td
      refine thnF td fun r s6 ⟨hr, I6⟩ => ?_
      subst hr
      subst hB
      have I7 : Inv X pins σ H5 s6 := I3.call' (ch := fp) I6.os I6.base I6.hok I6.bare fun b hb => ⟨(f3 b hb).1.2.2.2.1, (f3 b hb).1.2.1, (f3 b hb).1.2.2.2.2.1, (f3 b hb).1.2.2.2.2.2⟩
      obtain ⟨m, hn, _⟩ := I6.loc
      exact hRR Da _ s6 m H5 I7 fin hn (I3.fpOk (H' := H5) (Nat.le_refl _) I6.free)
    · have ti := T.item B bpr bw bK bca i [] s5 _ H5 (fun _ _ => False) I5 (bex ▸ fp5) st5 go
      rw [bA] at ti
      refine thnF ti fun r s6 ⟨u, hr, h6⟩ => ?_
      subst hr
      refine thnF h6 fun _ s7 ⟨x, H7, I7, r7, y7, st7, n7⟩ => ?_
      rw [← bex] at n7
      have I7' := I7.pinned (mid_fp bpn I7 n7) (bex ▸ T.obj _ _ st7)
      have a1 := pg.run _ s7 _ H7 x u _ I7' r7 (step x H7 y7)
      rw [bpr, bw, bA, bxe, benv] at a1
      refine thnF a1 fun _ s8 ⟨σ8, H8, I8, hw8, q8⟩ => ?_
      rw [List.forIn_nil]
      refine wpAny_pure ?_
      simp only [if_true]
      have a2 := pk.run _ s8 σ8 H8 _ I8 q8
      rw [bpr, bw, bA, bxe, benv] at a2
      refine thnF a2 fun zk s9 ⟨yk, H9, I9, r9, q9⟩ => ?_
      have a3 := pv.run _ s9 σ8 H9 _ I9 q9
      rw [bpr, bw, bA, bxe, benv] at a3
      refine thnF a3 fun zv s10 ⟨yv, H10, I10, r10, kvs, k, d10, k10, ok10, z10, nx⟩ => ?_
      rw [← bpr, ← bw] at d10
      rw [← bpr, ← bw, ← bA]
      refine setN_run (bA ▸ hu) I10 d10 k10 ok10 r9 r10 z10 fun s11 H11 a11 d11 I11 => ?_
      rw [bpr, bw] at d11
      obtain ⟨m', hm', w'⟩ := hNx H11 (nx H11 a11 d11)
      exact mid_again T' st7 hw8 I11 hm' w'
  exact codeAny_compStart_dict loop (T.self X.A 0 _ _ _ st4 loop)
theorem pe_dcN {kx vx tg iter : Expr} {scope : Scope} {own : List (Str × Nat)} {pos : Pos} {wi : TI} {g : TG} {tk tv : TE} (hu : X.A.units + 64 < cLine) (hc : X.calm = true) (hN : X.N.Nodup) (hi : PI X tg iter wi) (ok : BlkOk X.N X.env.scope scope own)
    (hg : ∀ (s : Shared) (H : Hp) (C : Addr) (cl : List (Str × Addr)) (fp : List Addr), PG (X.blk s H scope (compEnvC scope cl C X.env) fp) tg g)
    (hk : ∀ (s : Shared) (H : Hp) (C : Addr) (cl : List (Str × Addr)) (fp : List Addr), PE (X.blk s H scope (compEnvC scope cl C X.env) fp) kx tk)
    (he : ∀ (s : Shared) (H : Hp) (C : Addr) (cl : List (Str × Addr)) (fp : List Addr), PE (X.blk s H scope (compEnvC scope cl C X.env) fp) vx tv) (hs : ∀ x, foldedSetIterable iter X.env x = pure x := by intro _; rfl) :
    PE X (.DictComp kx vx [⟨tg, iter, [], 0⟩] scope pos) (tDcN X.prog X.w wi g tk tv (own.map (·.2))) := by
  refine ⟨fun pins s σ H Q I h => ?_⟩
  rw [arm_eval_DictComp]
  refine dcN_core hu hc hN I hi ok hg hk he hs h fun D C s' m H' I' q hn f => ⟨m, hn, fun h'' sb => ?_⟩
  obtain ⟨f0, f1, f2, f3, f4, f5⟩ := f
  exact ⟨.ref D, H', I'.turned (t' := s'.toks) (fun b o hb e => (sb.2 b hb).trans e) f0 f1 f3 f4 f5, rfl, q⟩
/-- name = {..} on one line, the name a local -/
theorem ps_setDcN {i : Nat} {y : Str} {py : Pos} {kx vx tg iter : Expr} {scope : Scope} {own : List (Str × Nat)} {pos spos : Pos} {wi : TI} {g : TG} {tk tv : TE} (hu : X.A.units + 64 < cLine) (hc : X.calm = true) (hN : X.N.Nodup) (hy : X.N[i]? = some y) (hyl : X.env.scope.names.lookup y = some .local)
    (hsw : swapsWith (.DictComp kx vx [⟨tg, iter, [], 0⟩] scope pos) (some (.Name y py)) spos.line X.env = pure true) (hi : PI X tg iter wi) (ok : BlkOk X.N X.env.scope scope own)
    (hg : ∀ (s : Shared) (H : Hp) (C : Addr) (cl : List (Str × Addr)) (fp : List Addr), PG (X.blk s H scope (compEnvC scope cl C X.env) fp) tg g)
    (hk : ∀ (s : Shared) (H : Hp) (C : Addr) (cl : List (Str × Addr)) (fp : List Addr), PE (X.blk s H scope (compEnvC scope cl C X.env) fp) kx tk)
    (he : ∀ (s : Shared) (H : Hp) (C : Addr) (cl : List (Str × Addr)) (fp : List Addr), PE (X.blk s H scope (compEnvC scope cl C X.env) fp) vx tv) (hs : ∀ x, foldedSetIterable iter X.env x = pure x := by intro _; rfl) :
    PS X (.Assign [.Name y py] (.DictComp kx vx [⟨tg, iter, [], 0⟩] scope pos) spos) (tAsg (tDcN X.prog X.w wi g tk tv (own.map (·.2))) (gName i)) := by
  refine ⟨fun pins s σ H D I h => ?_⟩
  rw [exec_Assign_Name_used _ _ _ _ hsw]
  refine wpAny_bind (wpAny_standAt (wpAny_bind ?_))
  show wpAny _ X.A (do let _ ← comprehension (.DictComp kx vx [⟨tg, iter, [], 0⟩] scope pos) scope X.env (firstIterPos [⟨tg, iter, [], 0⟩] pos) newDict false (eval iter X.env) (some (assign (.Name y py) X.env))) _ _ s
  have h : tDcN X.prog X.w wi g tk tv (own.map (·.2)) σ H (fun x H1 => gName i x σ H1 D.nx) := h
  refine wpAny_bind (thn (dcN_core (Qf := fun _ s' => SP X pins D .next s') hu hc hN I hi ok hg hk he hs h fun L C s' m H' I' q hn f => ?_) fun _ s' hq => wpAny_pure (wpAny_pure hq))
  show wpAny _ _ (assign (.Name y py) X.env (.ref L)) _ _ _
  refine wpAny_assign_Name (store_ok2 (v := V.ref L) I' hN hy (.inl hyl) rfl (fun s2 I2 ⟨a, sb, ha⟩ => ?_) (.inr hyl))
  obtain ⟨f0, f1, f2, f3, f4, f5⟩ := f
  have haC : C ≠ a := by
    rcases ha with z | z
    · rw [z]; exact f1
    · exact fun e => f4 y a z e.symm
  refine ⟨m, hn.sameBut sb haC, fun h3 sb3 => ?_⟩
  exact ⟨_, H', I2.turned (t' := s2.toks) (fun b o hb e => (sb3.2 b hb).trans e) f0 f1 f3 f4 f5, q⟩
theorem sw_trueD {kx vx : Expr} {gs : List Comprehension} {scope : Scope} {pos py : Pos} {y : Str} {l : Nat} {env : Env} (hk : env.scope.kind = .function) (hy : env.scope.names.lookup y = some .local) (hl : (py.line == pos.line) = true)
    (ha : (scope.names.any fun (n, k) => n == y && (k == .local || k == .cell)) = false) : swapsWith (.DictComp kx vx gs scope pos) (some (.Name y py)) l env = pure true := by
  have ky : env.kindOf y = some .local := hy
  have hb : env.blockKind = .function := by unfold Env.blockKind; rw [hk]; rfl
  unfold swapsWith
  simp only [hb, ky, ha, Expr.pos, hl]
  rfl
end
end Fd

/-! set(list of whole numbers); sorted and min of data. -/
namespace Fd
open PySem PySem.Spec PyProof.Rows L2
/-- an empty set, as it is made -/
def set0 (w : World) : Obj := { cls := .type "set", dict := none, data := .set #[] 0 (.fresh 0 0 (!w.params.followText "set-order")) }
section
variable {P : Program} {w : World} {A : Around} {E : Value → Shared → Prop} {s : Shared}
/-- the new set behind the heap, the list's iterator behind that: filled to the end -/
theorem fill_ints {l : Addr} {items : Array Value} {ns : List Int} {R : Result → Shared → Prop} (hh : A.handled = none) (hl : s.heap.IsList l items) (hi : IntsAre items.toList ns) (hb : ns.length + 1 < scanBound)
    (h : ∀ (h' : Heap) (tk c : Nat), SetR w h' s.heap.objs.size (fun j => decide (j ∈ ns)) c → c ≤ ns.length → (∀ b o, s.heap.get? b = some o → h'.get? b = some o) → R (.ok (.ret .none)) { s with heap := h', toks := tk }) :
    codeAny (model P w) A (.builtin "set.update.loop" ⟨[.ref s.heap.objs.size, .ref (s.heap.push (set0 w)).objs.size], []⟩) R { s with heap := (s.heap.push (set0 w)).push { cls := .type "list_iterator", data := .fields #[.ref l, .int 0 0] } } := by
  have many : items.size = ns.length := by
    have q := IntsAre.length hi
    rwa [Array.length_toList] at q
  have low : l < s.heap.objs.size := (hl.elim fun o e => Heap.lt_size e.1)
  have z1 : (s.heap.push (set0 w)).objs.size = s.heap.objs.size + 1 := Heap.size_push ..
  have apart : l ≠ (s.heap.push (set0 w)).objs.size := by
    rw [z1]
    exact Nat.ne_of_lt (Nat.lt_succ_of_lt low)
  have own : s.heap.objs.size ∉ [(s.heap.push (set0 w)).objs.size, l] := by
    rw [z1]
    simp only [List.mem_cons, List.not_mem_nil, or_false, not_or]
    exact ⟨Nat.ne_of_lt (Nat.lt_succ_self _), Nat.ne_of_gt low⟩
  have each : ∀ (i : Nat) (v : Value), items[i]? = some v → ∃ k t, ns[i]? = some k ∧ v = .int k t := fun i v hv => by
    have hin : i < ns.length := many ▸ (Array.getElem?_eq_some_iff.mp hv).1
    obtain ⟨t, e⟩ := PyProof.Rows.IntsAre.int_at hi i v (by rw [Array.getElem?_toList]; exact hv)
    exact ⟨ns[i], t, List.getElem?_eq_getElem hin, by rw [e, List.getD_eq_getElem?_getD, List.getElem?_eq_getElem hin]; rfl⟩
  have here : (s.heap.push (set0 w)).IsList l items := hl.push _
  refine set_update_ints ((Walks.list (by simpa using hh) _ l apart items).toS) s.heap.objs.size own ns many hb each (items.size - 0) 0 _ (by omega) (Nat.zero_le _) ⟨⟨_, Heap.get?_push_size _ rfl, rfl, rfl⟩, here.push _⟩
    ⟨0, Nat.le_refl 0, setR_new_at (Heap.get?_push_of_some _ (Heap.get?_push_size _ rfl))⟩ fun s' c moved hc done => ?_
  obtain ⟨h', g', d', tk', os'⟩ := s'
  obtain rfl : g' = s.gens := moved.gens
  obtain rfl : d' = s.drawn := moved.drawn
  obtain rfl : os' = s.os := moved.os
  refine h h' tk' c done (many ▸ hc) fun b o e => moved.heap b o ?_ (Heap.get?_push_of_some _ (Heap.get?_push_of_some _ e))
  have hlt := Heap.lt_size e
  simp only [List.mem_cons, List.not_mem_nil, or_false, not_or]
  rw [z1]
  exact ⟨Nat.ne_of_lt hlt, Nat.ne_of_lt (Nat.lt_succ_of_lt hlt)⟩
/-- set(xs) -/
theorem set_of_ints {l : Addr} {items : Array Value} {ns : List Int} {Q : Value → Shared → Prop} (hh : A.handled = none) (hl : s.heap.IsList l items) (hi : IntsAre items.toList ns) (hb : ns.length + 1 < scanBound)
    (h : ∀ (h' : Heap) (tk c : Nat), SetR w h' s.heap.objs.size (fun j => decide (j ∈ ns)) c → c ≤ ns.length → (∀ b o, s.heap.get? b = some o → h'.get? b = some o) → Q (.ref s.heap.objs.size) { s with heap := h', toks := tk }) :
    wpAny (model P w) A (call (.type "set") [.ref l]) Q E s := by
  obtain ⟨c, tl, hmro⟩ := F.called_set.mro
  have m1 := F.called_set.made
  have m2 := F.called_set.sub
  refine wpAny_call (codeAny_of_tree ?_)
  show wpAny _ _ (callAny (.type "set") _) _ _ _
  refine wpAny_pure ⟨Code.quiet_builtin _ (by decide +kernel), codeAny_builtin F.entry_type_call ?_⟩
  rw [Around.under_plain (weight_type_call_type "set" [.ref l] []) rfl]
  have m3 := F.called_set.notType
  have m4 := F.called_set.canCreate
  have m5 := F.typeCall_set_1 (.ref l)
  repeat (any_goals (first | assumption | wp_step))
  refine codeAny_mono (code_set_led1 (.ref l) (E := E) (Q₁ := fun obj s₁ => obj = .ref s.heap.objs.size ∧ s₁ = { s with heap := s.heap.push (set0 w) }) ⟨rfl, rfl⟩) fun r s₁ hr => ?_
  cases r with
  | error e => exact hr
  | ok fl =>
    cases fl with
    | next => exact hr.elim
    | brk => exact hr.elim
    | cont => exact hr.elim
    | ret obj =>
      obtain ⟨rfl, rfl⟩ := hr
      have hT : Shared.TypeIs { s with heap := s.heap.push (set0 w) } (.ref s.heap.objs.size) "set" := ⟨_, Heap.get?_push_size _ rfl, rfl⟩
      have m6 := F.called_set.init.lookup
      have m7 := F.called_set.init.bind (.ref s.heap.objs.size)
      repeat (any_goals (first | assumption | wp_step))
      refine codeAny_mono (codeAny_call_builtin (R := wants (fun r s₂ => r = .none ∧ ∃ h' tk c, s₂ = { s with heap := h', toks := tk } ∧ SetR w h' s.heap.objs.size (fun j => decide (j ∈ ns)) c ∧ c ≤ ns.length ∧
          (∀ b o, s.heap.get? b = some o → h'.get? b = some o)) E) F.called_set.init.plain F.entry_set_init (check_set_init_1 hT ?_)) fun r₂ s₂ hr₂ => ?_
      · have low := hl
        obtain ⟨⟨ocls, odict, odata, oslots⟩, hol, hcl, nl, hdl⟩ := hl
        simp only at hcl hdl
        subst hcl
        subst hdl
        have there : (s.heap.push (set0 w)).get? l = some { cls := .type "list", dict := odict, data := .seq items nl, slots := oslots } := Heap.get?_push_of_some _ hol
        have n1 := F.sub_list_set
        have n2 := F.sub_list_frozenset
        have n3 : (Value.type "list" == Value.type "dict") = false := by decide
        unfold Builtin.«set.__init__» noKeywords Builtin.Frozenset.updateFrom
        generalize hPI : pyIter = PI
        wp_walk
        subst hPI
        refine wpAny_pyIter_list (low.push _) ?_
        refine wpAny_bind (wpAny_runValue ?_)
        refine fill_ints (by simpa using hh) low hi hb fun h' tk c R hc k => ?_
        show wpAny _ _ _ _ _ _
        refine wpAny_pure ?_
        show wpAny _ _ (ret Value.none) _ _ _
        exact wpAny_pure ⟨rfl, h', tk, c, rfl, R, hc, k⟩
      · cases r₂ with
        | error e => exact hr₂
        | ok fl₂ =>
          cases fl₂ with
          | next => exact hr₂.elim
          | brk => exact hr₂.elim
          | cont => exact hr₂.elim
          | ret r =>
            obtain ⟨rfl, h', tk, c', rfl, R, hc, k⟩ := hr₂
            repeat (any_goals (first | assumption | wp_step))
            exact h _ _ _ R hc k
end
section
variable {X : Cx} {pins : List (Addr × Obj)} {σ : L2.St} {H : Hp} {s : Shared}
def rSetI (K : PySem.W.Frag) (w : World) : List V → Hp → VK → Prop := fun xs H Q => ∃ (l : Addr) (ns : List Int), xs = [.ref l] ∧ SqL K H l (ns.map V.int) ∧ ns.length ≤ 1000 ∧ ∀ a c, H a = none → c ≤ ns.length → Q (.ref a) (upd H a (SetO w a (fun j => decide (j ∈ ns)) c))
theorem cr_setI (hc : X.calm = true) : CallR X (.type "set") (rSetI X.K X.w) := by
  intro pins s σ H vs us Q I r h
  obtain ⟨l, ns, rfl, hs, hz, q⟩ := h
  obtain ⟨its, rv, hl, _⟩ := I.list hs
  rw [Vals.ref1 r]
  refine set_of_ints (I.ok.hd hc) hl.isList (ns := ns) (by simpa using rv.ints) (by unfold scanBound; omega) fun h' tk c R hc' k => ?_
  have hn := I.hok.fresh (Nat.le_refl s.heap.objs.size)
  exact ⟨.ref _, _, I.laid (t' := tk) k (Nat.le_refl _) (setO_new R), rfl, q _ c hn hc'⟩
end
end Fd

/-! min of data, sorted rows of whole numbers. -/
namespace Fd
open PySem PySem.Spec PyProof.Rows L2
mutual
theorem dlt_irr : ∀ a : D, dlt a a = false
  | .none => by simp [dlt]
  | .num i => by simp [dlt]
  | .text x => by simp [dlt]
  | .tup xs => by
    simp only [dlt]
    exact dltAll_irr xs
theorem dltAll_irr : ∀ a : List D, dltAll a a = false
  | [] => by simp [dltAll]
  | x :: xs => by
    simp only [dltAll, if_true]
    exact dltAll_irr xs
end
mutual
theorem dlt_trans : ∀ a b c : D, dlt a b = true → dlt b c = true → dlt a c = true
  | .num a, .num b, .num c, h, g => by
    simp only [dlt, decide_eq_true_eq] at h g ⊢
    omega
  | .tup a, .tup b, .tup c, h, g => by
    simp only [dlt] at h g ⊢
    exact dltAll_trans a b c h g
  | .none, _, _, h, _ => by simp [dlt] at h
  | .text _, _, _, h, _ => by simp [dlt] at h
  | .num _, .none, _, h, _ => by simp [dlt] at h
  | .num _, .text _, _, h, _ => by simp [dlt] at h
  | .num _, .tup _, _, h, _ => by simp [dlt] at h
  | .tup _, .none, _, h, _ => by simp [dlt] at h
  | .tup _, .text _, _, h, _ => by simp [dlt] at h
  | .tup _, .num _, _, h, _ => by simp [dlt] at h
  | .num _, .num _, .none, _, g => by simp [dlt] at g
  | .num _, .num _, .text _, _, g => by simp [dlt] at g
  | .num _, .num _, .tup _, _, g => by simp [dlt] at g
  | .tup _, .tup _, .none, _, g => by simp [dlt] at g
  | .tup _, .tup _, .text _, _, g => by simp [dlt] at g
  | .tup _, .tup _, .num _, _, g => by simp [dlt] at g
theorem dltAll_trans : ∀ a b c : List D, dltAll a b = true → dltAll b c = true → dltAll a c = true
  | [], [], _, h, _ => by simp [dltAll] at h
  | [], _ :: _, [], _, g => by simp [dltAll] at g
  | [], _ :: _, _ :: _, _, _ => by simp [dltAll]
  | _ :: _, [], _, h, _ => by simp [dltAll] at h
  | _ :: _, _ :: _, [], _, g => by simp [dltAll] at g
  | x :: xs, y :: ys, z :: zs, h, g => by
    simp only [dltAll] at h g ⊢
    by_cases e1 : x = y
    · subst e1
      rw [if_pos rfl] at h
      by_cases e2 : x = z
      · subst e2
        rw [if_pos rfl] at g ⊢
        exact dltAll_trans xs ys zs h g
      · rw [if_neg e2] at g ⊢
        exact g
    · rw [if_neg e1] at h
      by_cases e2 : y = z
      · subst e2
        rw [if_neg e1]
        exact h
      · rw [if_neg e2] at g
        have t := dlt_trans x y z h g
        by_cases e3 : x = z
        · subst e3
          rw [dlt_irr] at t
          cases t
        · rw [if_neg e3]
          exact t
end
/-- none of the first ones is below the best of them -/
theorem best_least {f : Nat → D} : ∀ (k : Nat), ∀ i, i ≤ k → dlt (f i) (f (argBest (fun i j => dlt (f i) (f j)) k)) = false
  | 0, i, h => by
    have e : i = 0 := by omega
    subst e
    exact dlt_irr _
  | k + 1, i, h => by
    have ih := best_least (f := f) k
    simp only [argBest]
    by_cases b : dlt (f (k + 1)) (f (argBest (fun i j => dlt (f i) (f j)) k)) = true
    · rw [if_pos b]
      by_cases e : i = k + 1
      · subst e
        exact dlt_irr _
      · cases c : dlt (f i) (f (k + 1)) with
        | false => rfl
        | true =>
          have t := dlt_trans _ _ _ c b
          rw [ih i (by omega)] at t
          cases t
    · rw [if_neg b]
      by_cases e : i = k + 1
      · subst e
        exact Bool.eq_false_iff.mpr b
      · exact ih i (by omega)
theorem argBest_le (bt : Nat → Nat → Bool) : ∀ k, argBest bt k ≤ k
  | 0 => Nat.le_refl 0
  | k + 1 => by
    have ih := argBest_le bt k
    simp only [argBest]
    split <;> omega
section
variable {prog : Program} {w : World} {A : Around} {R : Result → Shared → Prop} {I : Addr} {fp wr : List Addr} {n : Nat} {Pv : Nat → Value → Prop} {St : Nat → Heap → Prop}
/-- comparisons that hold while the objects of a heap stay -/
def LtIn (prog : Program) (w : World) (A : Around) (base : Heap) (Pv : Nat → Value → Prop) (bt : Nat → Nat → Bool) : Prop :=
  ∀ i j vi vj (s : Shared) (Q : Value → Shared → Prop) (E : Value → Shared → Prop), (∀ b o, base.get? b = some o → s.heap.get? b = some o) → Pv i vi → Pv j vj → Q (.bool (bt i j)) s → wpAny (model prog w) A (richCompare .Lt vi vj) Q E s
/-- the best so far stands in a list of the loop's own -/
def heldBest (vb : Value) (c : Nat) : Obj := { cls := .type "list", dict := none, data := .seq #[vb, vb] c, slots := #[] }
theorem min_turns (W : Walks prog w A.in1 I fp wr n Pv St) {base : Heap} (bt : Nat → Nat → Bool) (cmp : LtIn prog w A.in1 base Pv bt) (S : Addr) (hSf : S ∉ fp) (nS : base.get? S = none) (nwr : ∀ b ∈ wr, base.get? b = none) :
    ∀ (k j : Nat) (s : Shared) (vb : Value) (c : Nat), n - (j + 1) = k → j + 1 ≤ n → St (j + 1) s.heap → Pv (argBest bt j) vb → s.heap.get? S = some (heldBest vb c) → (∀ b o, base.get? b = some o → s.heap.get? b = some o) →
      (∀ v h' tk, Pv (argBest bt (n - 1)) v → (∀ b o, b ∉ wr → b ≠ S → s.heap.get? b = some o → h'.get? b = some o) → R (.ok (.ret v)) { s with heap := h', toks := tk }) →
      codeAny (model prog w) A (.builtin "min.loop" ⟨[.ref I, .none, .ref S], []⟩) R s := by
  have hSw : S ∉ wr := fun z => hSf (W.sub _ z)
  have nm : (toString "min" ++ toString ".loop" : String) = "min.loop" := by decide
  have stays : ∀ {h h' : Heap}, (∀ b o, base.get? b = some o → h.get? b = some o) → (∀ b o, b ∉ wr → b ≠ S → h.get? b = some o → h'.get? b = some o) → ∀ b o, base.get? b = some o → h'.get? b = some o := fun h1 h2 b o e => by
    refine h2 b o (fun z => ?_) (fun z => ?_) (h1 b o e)
    · rw [nwr b z] at e
      cases e
    · rw [z, nS] at e
      cases e
  intro k
  induction k with
  | zero =>
    intro j s vb c hk hj hst hP hS hbase fin
    have last : j + 1 = n := by omega
    refine codeAny_builtin F.entry_min_loop ?_
    rw [Around.under_plainId F.plain_min_loop _]
    show wpAny _ A.in1 (seqItems? (.ref S) >>= _) _ _ s
    refine wpAny_bind (wpAny_seqItems hS rfl ?_)
    show wpAny _ A.in1 (tryCatch (pyNext (.ref I)) _ >>= _) _ _ s
    refine wpAny_bind (wpAny_tryCatch (W.done s _ _ (last ▸ hst) fun h' tk kept => ?_))
    have hS' := kept S _ hSw hS
    show wpAny _ A.in1 (updateSeq S (fun _ => #[]) >>= _) _ _ _
    refine wpAny_bind (wpAny_updateSeq hS' rfl (wpAny_bind (wpAny_letGo (wpAny_pure ?_))))
    refine fin vb _ tk (last ▸ hP) fun b o hbw hbS e => ?_
    exact (Heap.get?_update_other _ _ (Ne.symm hbS)).trans (kept b o hbw e)
  | succ k ih =>
    intro j s vb c hk hj hst hP hS hbase fin
    have more : j + 1 < n := by omega
    refine codeAny_builtin F.entry_min_loop ?_
    rw [Around.under_plainId F.plain_min_loop _]
    show wpAny _ A.in1 (seqItems? (.ref S) >>= _) _ _ s
    refine wpAny_bind (wpAny_seqItems hS rfl ?_)
    show wpAny _ A.in1 (tryCatch (pyNext (.ref I)) _ >>= _) _ _ s
    refine wpAny_bind (wpAny_tryCatch (W.item (j + 1) s _ _ more hst fun v h' tk hv hst' kept => ?_))
    have hS' := kept S _ hSw hS
    have kb : ∀ b o, base.get? b = some o → h'.get? b = some o := stays hbase fun b o hb _ e => kept b o hb e
    show wpAny _ A.in1 (tryCatch (holding [v, v] (richCompare .Lt v vb >>= _)) _ >>= _) _ _ _
    refine wpAny_bind (wpAny_tryCatch (wpAny_holding (wpAny_bind (cmp (j + 1) (argBest bt j) v vb _ _ _ kb hv hP ?_))))
    refine wpAny_bind (wpAny_holding (wpAny_truthy_bool ?_))
    refine wpAny_bind (wpAny_letGo (wpAny_pure ?_))
    cases hb : bt (j + 1) (argBest bt j) with
    | true =>
      simp only [if_true]
      refine wpAny_bind (wpAny_updateSeq hS' rfl (wpAny_bind (wpAny_letGo ?_)))
      rw [nm]
      have up : ∀ b o, b ∉ wr → b ≠ S → s.heap.get? b = some o → (h'.update S (Obj.mapSeq fun _ => #[v, v])).get? b = some o := fun b o hbw hbS e => (Heap.get?_update_other _ _ (Ne.symm hbS)).trans (kept b o hbw e)
      refine wpAny_pure ⟨plainId_quiet F.plain_min_loop _, ih (j + 1) _ v _ (by omega) more (W.frame _ _ _ hst' fun b hbf o e => ?_) (by simp only [argBest, hb, if_true]; exact hv) (Heap.get?_update_self _ hS' rfl) (stays hbase up) fun v' h'' tk'' hP' kk => ?_⟩
      · exact (Heap.get?_update_other _ _ (fun z : S = b => hSf (z ▸ hbf))).trans e
      · exact fin v' h'' tk'' hP' fun b o hbw hbS e => kk b o hbw hbS (up b o hbw hbS e)
    | false =>
      simp only [Bool.false_eq_true, if_false]
      refine wpAny_bind (wpAny_letGo ?_)
      rw [nm]
      refine wpAny_pure ⟨plainId_quiet F.plain_min_loop _, ih (j + 1) _ vb c (by omega) more hst' (by simp only [argBest, hb, Bool.false_eq_true, if_false]; exact hP) hS' kb fun v' h'' tk'' hP' kk => ?_⟩
      exact fin v' h'' tk'' hP' fun b o hbw hbS e => kk b o hbw hbS (kept b o hbw e)
theorem min_begins (W : Walks prog w A.in1 I fp wr n Pv St) {base : Heap} (bt : Nat → Nat → Bool) (cmp : LtIn prog w A.in1 base Pv bt) (S : Addr) (hSf : S ∉ fp) (nS : base.get? S = none) (nwr : ∀ b ∈ wr, base.get? b = none) (hn : 0 < n) {s : Shared} {c : Nat} (hst : St 0 s.heap)
    (hS : s.heap.get? S = some { cls := .type "list", dict := none, data := .seq #[] c, slots := #[] }) (hbase : ∀ b o, base.get? b = some o → s.heap.get? b = some o)
    (fin : ∀ v h' tk, Pv (argBest bt (n - 1)) v → (∀ b o, b ∉ wr → b ≠ S → s.heap.get? b = some o → h'.get? b = some o) → R (.ok (.ret v)) { s with heap := h', toks := tk }) :
    codeAny (model prog w) A (.builtin "min.loop" ⟨[.ref I, .none, .ref S], []⟩) R s := by
  have hSw : S ∉ wr := fun z => hSf (W.sub _ z)
  have nm : (toString "min" ++ toString ".loop" : String) = "min.loop" := by decide
  refine codeAny_builtin F.entry_min_loop ?_
  rw [Around.under_plainId F.plain_min_loop _]
  show wpAny _ A.in1 (seqItems? (.ref S) >>= _) _ _ s
  refine wpAny_bind (wpAny_seqItems hS rfl ?_)
  show wpAny _ A.in1 (tryCatch (pyNext (.ref I)) _ >>= _) _ _ s
  refine wpAny_bind (wpAny_tryCatch (W.item 0 s _ _ hn hst fun v h' tk hv hst' kept => ?_))
  have hS' := kept S _ hSw hS
  show wpAny _ A.in1 (updateSeq S (fun _ => #[v, v]) >>= _) _ _ _
  refine wpAny_bind (wpAny_updateSeq hS' rfl ?_)
  rw [nm]
  have up : ∀ b o, b ∉ wr → b ≠ S → s.heap.get? b = some o → (h'.update S (Obj.mapSeq fun _ => #[v, v])).get? b = some o := fun b o hbw hbS e => (Heap.get?_update_other _ _ (Ne.symm hbS)).trans (kept b o hbw e)
  refine wpAny_pure ⟨plainId_quiet F.plain_min_loop _, min_turns W bt cmp S hSf nS nwr _ 0 _ v _ rfl hn (W.frame _ _ _ hst' fun b hbf o e => ?_) hv (Heap.get?_update_self _ hS' rfl) (fun b o e => ?_) fun v' h'' tk'' hP' kk => ?_⟩
  · exact (Heap.get?_update_other _ _ (fun z : S = b => hSf (z ▸ hbf))).trans e
  · refine up b o (fun z => ?_) (fun z => ?_) (hbase b o e)
    · rw [nwr b z] at e
      cases e
    · rw [z, nS] at e
      cases e
  · exact fin v' h'' tk'' hP' fun b o hbw hbS e => kk b o hbw hbS (up b o hbw hbS e)
end
section
variable {X : Cx} {pins : List (Addr × Obj)} {σ : L2.St} {H : Hp} {s : Shared}
/-- min(xs), xs a list of data of one build, not empty -/
def rMinN (K : PySem.W.Frag) : List V → Hp → VK → Prop := fun xs H Q => ∃ (l : Addr) (vs : List V) (ds : List D), xs = [.ref l] ∧ SqL K H l vs ∧ Dats H ds vs ∧ ds ≠ [] ∧ (∀ d ∈ ds, ∀ e ∈ ds, same1 d e = true) ∧ (∀ d ∈ ds, d.depth ≤ 8) ∧
  ∀ v d, Dat H d v → d ∈ ds → (∀ e ∈ ds, dlt e d = false) → Q v H
theorem cr_minN (hc : X.calm = true) (hu : X.A.units + 64 < cLine) : CallR X (.builtin "min") (rMinN X.K) := by
  intro pins s σ H xs us Q I r h
  obtain ⟨l, vs, ds, rfl, hs, hds, hne, hsm, h8, q⟩ := h
  obtain ⟨its, rv, hl, _⟩ := I.list hs
  rw [Vals.ref1 r]
  have len1 : vs.length = ds.length := dats_len hds
  have len2 : vs.length = its.length := rv.length
  have hpos : 0 < ds.length := List.length_pos_iff.mpr hne
  have hcalm := I.ok.hd hc
  have nm : (toString "min" ++ toString ".loop" : String) = "min.loop" := by decide
  refine call_function_tree F.kind_min F.plain_min F.entry_min (F.args_min1 _) ?_
  show wpAny _ X.A.in1 (Builtin.Builtins.bindParams "min" ["key", "default"] 0 ⟨[], []⟩ >>= _) _ _ s
  refine wpAny_bind (wpAny_of_eq (show Builtin.Builtins.bindParams "min" ["key", "default"] 0 ⟨[], []⟩ = pure [none, none] from rfl) ?_)
  refine wpAny_bind (wpAny_pure ?_)
  have hlst : s.heap.IsList l its.toArray := hl.isList
  refine wpAny_bind (wpAny_pyIter_list hlst ?_)
  refine wpAny_bind (wpAny_newObj_type ?_)
  rw [nm]
  have low : l < s.heap.objs.size := hlst.elim fun o e => Heap.lt_size e.1
  have gone : ∀ b, s.heap.objs.size ≤ b → s.heap.get? b = none := fun b hb => by
    cases e : s.heap.get? b with
    | none => rfl
    | some o => exact absurd (Nat.lt_of_lt_of_le (Heap.lt_size e) hb) (Nat.lt_irrefl _)
  have item : ∀ {i : Nat} {u : Value}, its.toArray[i]? = some u → ∃ v d, vs[i]? = some v ∧ ds[i]? = some d ∧ Dat H d v ∧ RelV v u := fun {i u} e => by
    have e' : its[i]? = some u := by simpa using e
    have hi : i < its.length := (List.getElem?_eq_some_iff.mp e').1
    have hv : vs[i]? = some vs[i] := List.getElem?_eq_getElem (by omega)
    obtain ⟨d, hd1, hd2⟩ := dats_getV hds hv
    obtain ⟨u', hu1, hu2⟩ := rv.get hv
    rw [e'] at hu1
    cases hu1
    exact ⟨_, d, hv, hd1, hd2, hu2⟩
  have big : (s.heap.push { cls := .type "list_iterator", data := .fields #[.ref l, .int 0 0] }).objs.size = s.heap.objs.size + 1 := Heap.size_push ..
  have cmp : LtIn X.prog X.w X.A.in1 s.heap (fun i u => its.toArray[i]? = some u) (fun i j => dlt (ds.getD i .none) (ds.getD j .none)) := by
    intro i j vi vj s' Q' E' keep hi hj fin
    obtain ⟨v1, d1, a1, b1, c1, r1⟩ := item hi
    obtain ⟨v2, d2, a2, b2, c2, r2⟩ := item hj
    obtain ⟨as, R1⟩ := Dat.reads I c1 r1
    obtain ⟨bs, R2⟩ := Dat.reads I c2 r2
    have m1 : d1 ∈ ds := List.mem_of_getElem? b1
    have m2 : d2 ∈ ds := List.mem_of_getElem? b2
    have sm := hsm d1 m1 d2 m2
    have g1 : ds.getD i .none = d1 := by rw [List.getD_eq_getElem?_getD, b1]; rfl
    have g2 : ds.getD j .none = d2 := by rw [List.getD_eq_getElem?_getD, b2]; rfl
    have lt := PySem.W.rcLt_alike d1.data d2.data X.A.in1 s' vi vj as bs (PyProof.Rows.Reads.keeps keep R1) (PyProof.Rows.Reads.keeps keep R2) (same1_alike d1 d2 sm) (same1_ne sm) (by
      have := h8 d1 m1
      rw [data_depth, data_depth, Around.in1_units]
      omega)
    rw [dlt_data d1 d2 sm] at lt
    have fin' : Q' (.bool (dlt d1 d2)) s' := by
      rw [← g1, ← g2]
      exact fin
    exact lt X.prog X.w E' Q' fin'
  refine wpAny_pure ⟨plainId_quiet F.plain_min_loop _, min_begins (n := its.toArray.size) (Walks.list (A := X.A.in1) (by simpa using hcalm) s.heap.objs.size l (Nat.ne_of_lt low) its.toArray) (base := s.heap) _ cmp
    (s.heap.push { cls := .type "list_iterator", data := .fields #[.ref l, .int 0 0] }).objs.size ?_ (gone _ (by rw [big]; exact Nat.le_succ _)) (fun b hb => ?_) ?_ ⟨⟨_, Heap.get?_push_of_some _ (Heap.get?_push_size _ rfl), rfl, rfl⟩, (hlst.push _).push _⟩ (Heap.get?_push_size _ rfl) (fun b o e => Heap.get?_push_of_some _ (Heap.get?_push_of_some _ e)) fun v h' tk hP kk => ?_⟩
  · rw [big]
    simp only [List.mem_cons, List.not_mem_nil, or_false, not_or]
    exact ⟨Nat.ne_of_gt (Nat.lt_succ_self _), Nat.ne_of_gt (Nat.lt_succ_of_lt low)⟩
  · rw [List.mem_singleton.mp hb]
    exact gone _ (Nat.le_refl _)
  · simp only [List.size_toArray]
    omega
  · obtain ⟨v1, d1, a1, b1, c1, r1⟩ := item hP
    have kept : ∀ b o, s.heap.get? b = some o → h'.get? b = some o := fun b o e => by
      have hlt := Heap.lt_size e
      refine kk b o (fun z => ?_) ?_ (Heap.get?_push_of_some _ (Heap.get?_push_of_some _ e))
      · exact absurd (List.mem_singleton.mp z) (Nat.ne_of_lt hlt)
      · rw [big]
        exact Nat.ne_of_lt (Nat.lt_succ_of_lt hlt)
    refine ⟨v1, H, I.kept (t' := tk) kept, r1, q v1 d1 c1 (List.mem_of_getElem? b1) fun e he => ?_⟩
    obtain ⟨i, hi, rfl⟩ := List.mem_iff_getElem.mp he
    have z := best_least (f := fun i => ds.getD i .none) (its.toArray.size - 1) i (by simp only [List.size_toArray]; omega)
    have g1 : ds.getD i .none = ds[i] := by rw [List.getD_eq_getElem?_getD, List.getElem?_eq_getElem hi]; rfl
    have g2 : ds.getD (argBest (fun i j => dlt (ds.getD i .none) (ds.getD j .none)) (its.toArray.size - 1)) .none = d1 := by rw [List.getD_eq_getElem?_getD, b1]; rfl
    simp only [g1, g2] at z
    exact z
end
end Fd

/-! Typed data; rules for tuples, lists and calls told by data. -/
namespace Fd
open PySem PySem.Spec PyProof.Rows L2
/-- how a Lean value is written as a datum -/
class Enc (α : Type) where
  enc : α → D
  dep : Nat
  wf : ∀ x, plain (enc x) = true
  hd : ∀ x, (enc x).depth ≤ dep
  inj : ∀ x y, enc x = enc y → x = y
open Enc (enc)
instance : Enc Nat where
  enc n := .num n
  dep := 0
  wf _ := rfl
  hd _ := Nat.le_refl _
  inj x y h := by
    injection h with h
    exact Int.ofNat_inj.mp h
structure Stp where
  s : Nat
  a : Nat
  m : Nat
  deriving DecidableEq
structure Mv where
  s : Nat
  a : Nat
  m : Nat
  g : Nat
  deriving DecidableEq
/-- how many slips, answers, marks -/
structure Sz where
  s : Nat
  a : Nat
  m : Nat
  deriving DecidableEq
instance : Enc Sz where
  enc x := .tup [.num x.s, .num x.a, .num x.m]
  dep := 1
  wf _ := rfl
  hd _ := by simp [NestedKey.depth, NestedKey.depthAll]
  inj x y h := by
    cases x
    cases y
    simp only [NestedKey.tup.injEq, List.cons.injEq, NestedKey.num.injEq, and_true, Int.ofNat_inj] at h
    simp [h]
def Mv.stp (v : Mv) : Stp := ⟨v.s, v.a, v.m⟩
instance : Enc Stp where
  enc x := .tup [.num x.s, .num x.a, .num x.m]
  dep := 1
  wf _ := rfl
  hd _ := by simp [NestedKey.depth, NestedKey.depthAll]
  inj x y h := by
    cases x
    cases y
    simp only [NestedKey.tup.injEq, List.cons.injEq, NestedKey.num.injEq, and_true, Int.ofNat_inj] at h
    simp [h]
instance : Enc Mv where
  enc x := .tup [.num x.s, .num x.a, .num x.m, .num x.g]
  dep := 1
  wf _ := rfl
  hd _ := by simp [NestedKey.depth, NestedKey.depthAll]
  inj x y h := by
    cases x
    cases y
    simp only [NestedKey.tup.injEq, List.cons.injEq, NestedKey.num.injEq, and_true, Int.ofNat_inj] at h
    simp [h]
theorem enc_map_inj {α : Type} [Enc α] : ∀ xs ys : List α, xs.map enc = ys.map enc → xs = ys
  | [], [], _ => rfl
  | [], _ :: _, h => by simp at h
  | _ :: _, [], h => by simp at h
  | x :: xs, y :: ys, h => by
    simp only [List.map_cons, List.cons.injEq] at h
    rw [Enc.inj x y h.1, enc_map_inj xs ys h.2]
theorem plain_map {α : Type} [Enc α] (xs : List α) : plainAll (xs.map enc) = true := by
  rw [plainAll_iff]
  intro k hk
  obtain ⟨x, _, rfl⟩ := List.mem_map.mp hk
  exact Enc.wf x
theorem depth_map {α : Type} [Enc α] : ∀ xs : List α, NestedKey.depthAll (xs.map enc) ≤ Enc.dep α
  | [] => Nat.zero_le _
  | x :: xs => by
    simp only [List.map_cons, NestedKey.depthAll]
    have h1 := Enc.hd x
    have h2 := depth_map xs
    omega
instance {α : Type} [Enc α] : Enc (List α) where
  enc xs := .tup (xs.map enc)
  dep := Enc.dep α + 1
  wf xs := by
    show plain (.tup (xs.map enc)) = true
    simp only [plain]
    exact plain_map xs
  hd xs := by
    show (NestedKey.tup (xs.map enc)).depth ≤ _
    simp only [NestedKey.depth]
    have := depth_map xs
    omega
  inj xs ys h := by
    injection h with h
    exact enc_map_inj xs ys h
instance {α β : Type} [Enc α] [Enc β] : Enc (α × β) where
  enc p := .tup [enc p.1, enc p.2]
  dep := Enc.dep α + Enc.dep β + 1
  wf p := by
    show plain (.tup [enc p.1, enc p.2]) = true
    simp [plain, plainAll, Enc.wf]
  hd p := by
    show (NestedKey.tup [enc p.1, enc p.2]).depth ≤ _
    simp only [NestedKey.depth, NestedKey.depthAll]
    have h1 := Enc.hd p.1
    have h2 := Enc.hd p.2
    omega
  inj p q h := by
    obtain ⟨a, b⟩ := p
    obtain ⟨c, d⟩ := q
    injection h with h
    simp only [List.cons.injEq, and_true] at h
    rw [Enc.inj a c h.1, Enc.inj b d h.2]
theorem okd {α : Type} [Enc α] (x : α) (h : Enc.dep α ≤ 8 := by decide) : Okd (enc x) := ⟨Enc.wf x, Nat.le_trans (Enc.hd x) h⟩
theorem enc_eq {α : Type} [Enc α] {x y : α} : enc x = enc y ↔ x = y := ⟨Enc.inj x y, fun h => h ▸ rfl⟩
/-- the value stands for x -/
abbrev Is {α : Type} [Enc α] (H : Hp) (x : α) (v : V) : Prop := Dat H (enc x) v
abbrev Iss {α : Type} [Enc α] (H : Hp) (xs : List α) (vs : List V) : Prop := Dats H (xs.map enc) vs
/-- a list at p of data -/
def Lsd (H : Hp) (p : Addr) (ds : List D) : Prop := ∃ vs, H p = some (.lst vs) ∧ Dats H ds vs
abbrev Ls {α : Type} [Enc α] (H : Hp) (p : Addr) (xs : List α) : Prop := Lsd H p (xs.map enc)
theorem is_nat {H : Hp} {n : Nat} {v : V} : Is H n v ↔ v = .int n := by
  show Dat H (.num n) v ↔ _
  unfold Dat
  exact Iff.rfl
theorem is_int {H : Hp} (n : Nat) : Is H n (.int n) := is_nat.mpr rfl
theorem dat_num {H : Hp} {i : Int} {v : V} : Dat H (.num i) v ↔ v = .int i := by
  unfold Dat
  exact Iff.rfl
theorem dat_tup {H : Hp} {ds : List D} {v : V} : Dat H (.tup ds) v ↔ ∃ a vs, v = .ref a ∧ H a = some (.tup vs) ∧ Dats H ds vs := by
  conv => lhs; unfold Dat
theorem Lsd.same {H H' : Hp} {p : Addr} {ds : List D} (h : Lsd H p ds) (s : Same H H') : Lsd H' p ds := by
  obtain ⟨vs, e, d⟩ := h
  exact ⟨vs, s _ _ e, Dats.mono (tx_same s) _ _ d⟩
theorem Lsd.keep {H H' : Hp} {p : Addr} {ds : List D} (h : Lsd H p ds) (e : H' p = H p) (t : Tx H H') : Lsd H' p ds := by
  obtain ⟨vs, q, d⟩ := h
  exact ⟨vs, e.trans q, Dats.mono t _ _ d⟩
theorem Lsd.ntup {H : Hp} {p : Addr} {ds : List D} (h : Lsd H p ds) (ys : List V) : H p ≠ some (.tup ys) := by
  obtain ⟨vs, e, _⟩ := h
  rw [e]
  intro z
  cases z
theorem Lsd.sq {K : PySem.W.Frag} {H : Hp} {p : Addr} {ds : List D} (h : Lsd H p ds) : ∃ vs, SqL K H p vs ∧ Dats H ds vs := by
  obtain ⟨vs, e, d⟩ := h
  exact ⟨vs, SqL.of e, d⟩
theorem Dat.same {H H' : Hp} {d : D} {v : V} (h : Dat H d v) (s : Same H H') : Dat H' d v := Dat.mono (tx_same s) _ _ h
theorem Dats.same {H H' : Hp} {d : List D} {v : List V} (h : Dats H d v) (s : Same H H') : Dats H' d v := Dats.mono (tx_same s) _ _ h
theorem same_new {H : Hp} {p : Addr} {o : HO} (h : H p = none) : Same H (upd H p o) := at1_upd.same h
theorem Evl_ixN {n j : Nat} (hj : j < n) : ixN n (j : Int) = some j := by
  unfold ixN
  rw [if_pos (by omega), if_pos (by omega)]
  simp
/-- a new tuple, a new list of data -/
theorem new_tup {H : Hp} {Q : VK} {ds : List D} {vs : List V} (h : Dats H ds vs) (k : ∀ v H', Same H H' → Dat H' (.tup ds) v → Q v H') : ∀ p, H p = none → Q (.ref p) (upd H p (.tup vs)) := fun p hp =>
  k _ _ (same_new hp) (dat_tup.mpr ⟨p, vs, rfl, upd_same, h.same (same_new hp)⟩)
theorem new_lst {H : Hp} {Q : VK} {ds : List D} {vs : List V} (h : Dats H ds vs) (k : ∀ p H', H p = none → Same H H' → Lsd H' p ds → Q (.ref p) H') : ∀ p, H p = none → Q (.ref p) (upd H p (.lst vs)) := fun p hp =>
  k p _ hp (same_new hp) ⟨vs, upd_same, h.same (same_new hp)⟩
theorem dats_last {H : Hp} : ∀ {ds : List D} {d : D} {vs : List V}, Dats H (ds ++ [d]) vs → ∃ us v, vs = us ++ [v] ∧ Dats H ds us ∧ Dat H d v
  | [], d, vs, h => by
    obtain ⟨v, r, rfl, h1, h2⟩ := dats_of_cons h
    rw [dats_of_nil h2]
    exact ⟨[], v, rfl, dats_nil, h1⟩
  | e :: ds, d, vs, h => by
    obtain ⟨v, r, rfl, h1, h2⟩ := dats_of_cons h
    obtain ⟨us, u, rfl, h3, h4⟩ := dats_last h2
    exact ⟨v :: us, u, rfl, dats_cons h1 h3, h4⟩
section
variable {X : Cx} {pins : List (Addr × Obj)} {σ : L2.St} {H : Hp} {s : Shared}
/-- xs.append(e), xs.extend(ys), xs.pop() of data -/
def rAppD : V → List V → Hp → VK → Prop := fun x vs H Q => ∃ (l : Addr) (ds : List D) (d : D) (y : V), x = .ref l ∧ vs = [y] ∧ Lsd H l ds ∧ Dat H d y ∧ ds.length < sizeLine ∧ ∀ H', At1 l H H' → Lsd H' l (ds ++ [d]) → Q .non H'
theorem mt_appD : MtM X "list.append" rAppD := by
  intro pins s σ H x xs v us Q I rx rs h
  obtain ⟨l, ds, d, y, rfl, rfl, ⟨vs, e, q⟩, hd, hz, k⟩ := h
  have t : Tx H (upd H l (.lst (vs ++ [y]))) := tx_lst e
  exact mt_append pins s σ H _ _ v us Q I rx rs ⟨l, vs, y, rfl, rfl, e, by rw [dats_len q]; exact hz, k _ at1_upd ⟨_, upd_same, Dats.mono t _ _ (dats_app q (dats_cons hd dats_nil))⟩⟩
def rExtD : V → List V → Hp → VK → Prop := fun x vs H Q => ∃ (l b : Addr) (ds es : List D), x = .ref l ∧ vs = [.ref b] ∧ Lsd H l ds ∧ Lsd H b es ∧ ds.length + es.length ≤ sizeLine ∧ ∀ H', At1 l H H' → Lsd H' l (ds ++ es) → Q .non H'
theorem mt_extD : MtM X "list.extend" rExtD := by
  intro pins s σ H x xs v us Q I rx rs h
  obtain ⟨l, b, ds, es, rfl, rfl, ⟨vs, e, q⟩, ⟨zs, e2, q2⟩, hz, k⟩ := h
  have t : Tx H (upd H l (.lst (vs ++ zs))) := tx_lst e
  exact mt_extend pins s σ H _ _ v us Q I rx rs ⟨l, b, vs, zs, rfl, rfl, e, e2, by rw [dats_len q, dats_len q2]; exact hz, k _ at1_upd ⟨_, upd_same, Dats.mono t _ _ (dats_app q q2)⟩⟩
def rPopD : V → List V → Hp → VK → Prop := fun x vs H Q => ∃ (l : Addr) (ds : List D) (d : D), x = .ref l ∧ vs = [] ∧ Lsd H l (ds ++ [d]) ∧ ∀ v H', At1 l H H' → Lsd H' l ds → Dat H' d v → Q v H'
theorem mt_popD : MtM X "list.pop" rPopD := by
  intro pins s σ H x xs v us Q I rx rs h
  obtain ⟨l, ds, d, rfl, rfl, ⟨vs, e, q⟩, k⟩ := h
  obtain ⟨zs, z, rfl, h1, h2⟩ := dats_last q
  have t : Tx H (upd H l (.lst zs)) := tx_lst e
  refine mt_pop pins s σ H _ _ v us Q I rx rs ⟨l, zs ++ [z], z, rfl, rfl, e, by simp, ?_⟩
  rw [List.dropLast_concat]
  exact k z _ at1_upd ⟨zs, upd_same, Dats.mono t _ _ h1⟩ (Dat.mono t _ _ h2)
theorem dats_erase {H : Hp} : ∀ {ds : List D} {vs : List V} (i : Nat), Dats H ds vs → Dats H (ds.eraseIdx i) (vs.eraseIdx i)
  | [], _, _, h => by
    rw [dats_of_nil h]
    exact dats_nil
  | d :: ds, _, 0, h => by
    obtain ⟨v, r, rfl, _, h2⟩ := dats_of_cons h
    exact h2
  | d :: ds, _, i + 1, h => by
    obtain ⟨v, r, rfl, h1, h2⟩ := dats_of_cons h
    exact dats_cons h1 (dats_erase i h2)
def rPopAtD : V → List V → Hp → VK → Prop := fun x vs H Q => ∃ (l : Addr) (ds : List D) (i : Nat), x = .ref l ∧ vs = [.int i] ∧ Lsd H l ds ∧ i < ds.length ∧ ds.length ≤ 1000 ∧ ∀ v H', At1 l H H' → Lsd H' l (ds.eraseIdx i) → Q v H'
theorem mt_popAtD : MtM X "list.pop" rPopAtD := by
  intro pins s σ H x xs v us Q I rx rs h
  obtain ⟨l, ds, i, rfl, rfl, ⟨vs, e, q⟩, hi, hz, k⟩ := h
  have len := dats_len q
  have hi' : i < vs.length := by omega
  have t : Tx H (upd H l (.lst (vs.eraseIdx i))) := tx_lst e
  refine mt_popAt pins s σ H _ _ v us Q I rx rs ⟨l, vs, i, i, vs[i], rfl, rfl, e, by omega, by omega, ?_, List.getElem?_eq_getElem hi', k _ _ at1_upd ⟨_, upd_same, Dats.mono t _ _ (dats_erase i q)⟩⟩
  exact (ixN_seq (Evl_ixN hi')).1
/-- (a, b), [a, b] of data -/
def tTupD (t : TA) : TE := fun σ H Q => t σ H fun xs H1 => ∃ ds : List D, Dats H1 ds xs ∧ ds.length ≤ sizeLine ∧ ∀ v H', Same H1 H' → Dat H' (.tup ds) v → Q v H'
def tLstD (t : TA) : TE := fun σ H Q => t σ H fun xs H1 => ∃ ds : List D, Dats H1 ds xs ∧ ds.length ≤ sizeLine ∧ ∀ p H', H1 p = none → At1 p H1 H' → Lsd H' p ds → Q (.ref p) H'
theorem PA.mono {es : List Expr} {t t' : TA} (h : PA X es t) (m : ∀ σ H Q, t' σ H Q → t σ H Q) : PA X es t' := ⟨fun pos pins s σ H Q I q => h.run pos pins s σ H Q I (m σ H Q q)⟩
theorem PE.mono {e : Expr} {t t' : TE} (h : PE X e t) (m : ∀ σ H Q, t' σ H Q → t σ H Q) : PE X e t' := ⟨fun pins s σ H Q I q => h.run pins s σ H Q I (m σ H Q q)⟩
/-- what an argument list's reading wants may be widened -/
def MonoA (t : TA) : Prop := ∀ σ H Q Q', (∀ xs H1, Q xs H1 → Q' xs H1) → t σ H Q → t σ H Q'
theorem pe_tupD {es : List Expr} {t : TA} {k : Nat} {pos : Pos} (h : PA X es t) : PE X (.Tuple es k pos) (tTupD t) := by
  refine ⟨fun pins s σ H Q I hq => ?_⟩
  refine wpAny_Tuple_spliced (thn (h.run pos pins s σ H _ I hq) fun us s1 ⟨xs, H1, I1, r, ds, hds, z, q⟩ => ?_)
  have hf : H1 s1.heap.objs.size = none := I1.hok.fresh (Nat.le_refl _)
  have len := dats_len hds
  refine ⟨by rw [← r.length, len]; exact z, .ref s1.heap.objs.size, upd H1 s1.heap.objs.size (.tup xs), I1.laid (t' := s1.toks) (fun b u e => Heap.get?_push_of_some _ e) (Nat.le_refl _) ?_, rfl, new_tup hds q _ hf⟩
  exact ⟨by rw [len]; exact z, us, r, ⟨_, Heap.get?_push_size _ rfl, rfl, _, rfl⟩⟩
theorem pe_lstD {es : List Expr} {t : TA} {pos : Pos} (h : PA X es t) : PE X (.List es pos) (tLstD t) := by
  refine ⟨fun pins s σ H Q I hq => ?_⟩
  refine wpAny_List_spliced (thn (h.run pos pins s σ H _ I hq) fun us s1 ⟨xs, H1, I1, r, ds, hds, z, q⟩ => ?_)
  have hf : H1 s1.heap.objs.size = none := I1.hok.fresh (Nat.le_refl _)
  have len := dats_len hds
  refine ⟨by rw [← r.length, len]; exact z, .ref s1.heap.objs.size, upd H1 s1.heap.objs.size (.lst xs), I1.laid (t' := s1.toks) (fun b u e => Heap.get?_push_of_some _ e) (Nat.le_refl _) ?_, rfl, q _ _ hf at1_upd ⟨xs, upd_same, hds.same (same_new hf)⟩⟩
  exact ⟨by rw [len]; exact z, us, 0, r, Heap.get?_push_size _ rfl⟩
/-- t[i], xs[i] of data -/
def rIxD : R2 := fun x y H Q => ∃ (ds : List D) (i : Nat) (d : D), Dat H (.tup ds) x ∧ y = .int i ∧ ds[i]? = some d ∧ ∀ v, Dat H d v → Q v H
theorem ix_dat : IxR X rIxD := by
  intro value slice pins s σ H x y v u Q I rx ry h hs
  obtain ⟨ds, i, d, hd, rfl, hi, q⟩ := h
  obtain ⟨a, vs, rfl, ha, hvs⟩ := dat_tup.mp hd
  obtain ⟨z, hz, hzd⟩ := dats_get hvs hi
  exact ix_tup value slice pins s σ H (.ref a) (.int i) v u Q I rx ry ⟨a, vs, i, z, rfl, rfl, SqT.of ha, atI_nat hz, q z hzd⟩ hs
def rIxLd (K : PySem.W.Frag) : R2 := fun x y H Q => ∃ (p : Addr) (ds : List D) (i : Nat) (d : D), x = .ref p ∧ Lsd H p ds ∧ y = .int i ∧ ds[i]? = some d ∧ ∀ v, Dat H d v → Q v H
theorem ix_lsd : IxR X (rIxLd X.K) := by
  intro value slice pins s σ H x y v u Q I rx ry h hs
  obtain ⟨a, ds, i, d, rfl, ⟨vs, ha, hvs⟩, rfl, hi, q⟩ := h
  obtain ⟨z, hz, hzd⟩ := dats_get hvs hi
  exact ix_list value slice pins s σ H (.ref a) (.int i) v u Q I rx ry ⟨a, vs, i, z, rfl, rfl, SqL.of ha, atI_nat hz, q z hzd⟩ hs
/-- t + u of data -/
def rCatD : R2 := fun x y H Q => ∃ ds es : List D, Dat H (.tup ds) x ∧ Dat H (.tup es) y ∧ ds.length + es.length ≤ sizeLine ∧ ∀ v H', Same H H' → Dat H' (.tup (ds ++ es)) v → Q v H'
theorem op_catD : OpR X (binaryOp .Add) rCatD := by
  intro pins s σ H x y v u Q I rx ry h
  obtain ⟨ds, es, hd, he, hz, q⟩ := h
  obtain ⟨a, vs, rfl, ha, hvs⟩ := dat_tup.mp hd
  obtain ⟨b, us, rfl, hb, hus⟩ := dat_tup.mp he
  refine op_catA pins s σ H _ _ v u Q I rx ry ⟨a, b, vs, us, rfl, rfl, SqT.of ha, SqT.of hb, by rw [dats_len hvs, dats_len hus]; exact hz, fun e => ?_, fun _ e => ?_, fun _ _ => new_tup (dats_app hvs hus) q⟩
  · have : ds = [] := by
      have := dats_len hvs
      rw [e] at this
      exact List.eq_nil_of_length_eq_zero this.symm
    subst this
    exact q _ _ (Same.refl H) he
  · have : es = [] := by
      have := dats_len hus
      rw [e] at this
      exact List.eq_nil_of_length_eq_zero this.symm
    subst this
    rw [List.append_nil] at q
    exact q _ _ (Same.refl H) hd
/-- t[:k] of data -/
def rSlD (K : PySem.W.Frag) : V → Option Int → Option Int → Hp → VK → Prop := fun x lo hi H Q => ∃ (ds : List D) (k : Nat), Dat H (.tup ds) x ∧ lo = none ∧ hi = some (k : Int) ∧ ∀ v H', Same H H' → Dat H' (.tup (ds.take k)) v → Q v H'
theorem cut_take (xs : List V) (k : Nat) : cutV xs none (some (k : Int)) = xs.take k := by
  unfold cutV
  rw [HT.sIx_none, HT.sIx_nat]
  simp [List.take_eq_take_iff]
theorem sl_dat : SlR X (rSlD X.K) := by
  intro pins s σ H x v vl vu lo hi sl Q I rx hs pl pu h
  obtain ⟨ds, k, hd, rfl, rfl, q⟩ := h
  obtain ⟨a, vs, rfl, ha, hvs⟩ := dat_tup.mp hd
  refine sl_tupA pins s σ H (.ref a) v vl vu none (some (k : Int)) sl Q I rx hs pl pu ⟨a, vs, rfl, SqT.of ha, fun e => ?_, fun _ => ?_⟩
  · have e2 := e.2
    rw [HT.sIx_nat] at e2
    have : ds.take k = ds := List.take_of_length_le (by rw [← dats_len hvs]; omega)
    rw [this] at q
    exact q _ _ (Same.refl H) hd
  · rw [cut_take]
    exact new_tup (dats_take k hvs) q
/-- xs[:k] of a list of data -/
def rSlLd (K : PySem.W.Frag) : V → Option Int → Option Int → Hp → VK → Prop := fun x lo hi H Q => ∃ (p : Addr) (ds : List D) (k : Nat), x = .ref p ∧ Lsd H p ds ∧ lo = none ∧ hi = some (k : Int) ∧ ∀ p H', H p = none → Same H H' → Lsd H' p (ds.take k) → Q (.ref p) H'
theorem sl_lsd : SlR X (rSlLd X.K) := by
  intro pins s σ H x v vl vu lo hi sl Q I rx hs pl pu h
  obtain ⟨a, ds, k, rfl, ⟨vs, ha, hvs⟩, rfl, rfl, q⟩ := h
  refine sl_list pins s σ H (.ref a) v vl vu none (some (k : Int)) sl Q I rx hs pl pu ⟨a, vs, rfl, SqL.of ha, ?_⟩
  rw [cut_take]
  exact new_lst (dats_take k hvs) q
/-- tuple(xs) of a list of data -/
def rTupD : List V → Hp → VK → Prop := fun xs H Q => ∃ (p : Addr) (ds : List D), xs = [.ref p] ∧ Lsd H p ds ∧ ∀ v H', Same H H' → Dat H' (.tup ds) v → Q v H'
theorem cr_tupD : CallR X (.type "tuple") rTupD := by
  intro pins s σ H vs us Q I r h
  obtain ⟨p, ds, rfl, ⟨xs, hp, hx⟩, q⟩ := h
  exact call_tuple_of pins s σ H _ us Q I r ⟨p, xs, rfl, .inl ⟨SqL.of hp, new_tup hx q⟩⟩
/-- list(t), list(xs) of data -/
def rListD (K : PySem.W.Frag) : List V → Hp → VK → Prop := fun xs H Q => ∃ (x : V) (ds : List D), xs = [x] ∧ (Dat H (.tup ds) x ∨ ∃ p, x = .ref p ∧ Lsd H p ds) ∧ ∀ p H', H p = none → Same H H' → Lsd H' p ds → Q (.ref p) H'
theorem cr_listD : CallR X (.type "list") (rListD X.K) := by
  intro pins s σ H vs us Q I r h
  obtain ⟨x, ds, rfl, hx, q⟩ := h
  rcases hx with hx | ⟨p, rfl, xs, hp, hx⟩
  · obtain ⟨a, xs, rfl, ha, hx⟩ := dat_tup.mp hx
    exact call_list_of pins s σ H _ us Q I r ⟨a, xs, rfl, .inr (SqT.of ha), new_lst hx q⟩
  · exact call_list_of pins s σ H _ us Q I r ⟨p, xs, rfl, .inl (SqL.of hp), new_lst hx q⟩
/-- len of data -/
def rLenD (K : PySem.W.Frag) : List V → Hp → VK → Prop := fun xs H Q => ∃ (x : V) (ds : List D), xs = [x] ∧ (Dat H (.tup ds) x ∨ ∃ p, x = .ref p ∧ Lsd H p ds) ∧ Q (.int ds.length) H
theorem cr_lenD : CallR X (.builtin "len") (rLenD X.K) := by
  intro pins s σ H vs us Q I r h
  obtain ⟨x, ds, rfl, hx, q⟩ := h
  rcases hx with hx | ⟨p, rfl, xs, hp, hx⟩
  · obtain ⟨a, xs, rfl, ha, hx⟩ := dat_tup.mp hx
    exact call_len_seq pins s σ H _ us Q I r ⟨a, xs, rfl, .inr (SqT.of ha), by rw [dats_len hx]; exact q⟩
  · exact call_len_seq pins s σ H _ us Q I r ⟨p, xs, rfl, .inl (SqL.of hp), by rw [dats_len hx]; exact q⟩
end
/-! ### what stands at the top -/
/-- a def, by its name -/
structure Ok (P : Program) (w : World) (K : PySem.W.Frag) (mg : Str → Option Value) (base : Heap) (k : Nat) (x : Str) (ps : List Str) (sp : Sp) : Prop where
  ex : ∃ f fd, FnOk P w K mg base CX0 k f fd ps sp ∧ mg x = some (.ref f) ∧ PySem.W.keepIn K (.ref f) = true ∧ Binds K fd ps []
structure Df (K : PySem.W.Frag) (mg : Str → Option Value) (x qual : Str) (st : Stmt) (ps : List Str) : Prop where
  ex : ∃ f fd, Fun K x qual st f fd ∧ mg x = some (.ref f) ∧ Binds K fd ps []
theorem Df.ok {P : Program} {w : World} {K : PySem.W.Frag} {mg : Str → Option Value} {base : Heap} {x qual : Str} {st : Stmt} {N ps : List Str} {k : Nat} {sp : Sp} (d : Df K mg x qual st ps) (S : FnScope N ps (defScope st)) (len : ∀ vs H Q E, sp vs H Q E → vs.length = ps.length)
    (hbody : ∀ (f : Addr) (cdv : Value) (A : Around) (outer : List Env) (s : Shared) (H : Hp) (vs : List V) (Q : VK) (E : XK), Room k (A.deeper (envOfC qual (defScope st) s.heap.objs.size f cdv)) → sp vs H Q E →
      ∃ t, PSs (cxOf CX0 P w K mg base N qual (defScope st) f cdv A outer s H E).nox (defBody st) t ∧ t { nx := fun _ H' => Q .non H', rt := Q } (start N vs) H) : Ok P w K mg base (k + 1) x ps sp := by
  obtain ⟨f, fd, F, g, b⟩ := d.ex
  exact ⟨f, fd, F.ok S len (hbody f), g, F.kp, b⟩
section
variable {X : Cx} {k n : Nat} {ps : List Str} {sp : Sp} {x : Str} {p pos : Pos} {e : Expr} {es : List Expr} {t : TA}
theorem pe_fn (O : Ok X.prog X.w X.K X.mg X.base k x ps sp) (hr : Room n X.A) (ha : PA X (e :: es) t) (hk : k ≤ n := by decide) (hg : Gl X x := by rfl) (hdb : (x == ("__debug__" : Str)) = false := by decide)
    (he : starEach (e :: es) X.env = (false, eval e X.env) :: starEach es X.env := by rfl) (hpl : (backTo pos (starEach es X.env)).any (·.1) = false := by rfl) : PE X (.Call (.Name x p) (e :: es) [] pos) (tCall sp [] E0 t) := by
  obtain ⟨f, fd, G, g, kp, b⟩ := O.ex
  exact pe_call G (hr.mono hk) hg g kp b .nil pass0 ha hdb he hpl
end
/-- the built-ins that the program leans on stand as they were -/
structure Bi (mg : Str → Option Value) : Prop where
  len : mg "len" = none
  range : mg "range" = none
  isinstance : mg "isinstance" = none
  int : mg "int" = none
  bool : mg "bool" = none
  str : mg "str" = none
  tuple : mg "tuple" = none
  list : mg "list" = none
  set : mg "set" = none
  sorted : mg "sorted" = none
  enumerate : mg "enumerate" = none
  zip : mg "zip" = none
  any : mg "any" = none
  all : mg "all" = none
  min : mg "min" = none
  max : mg "max" = none
end Fd

/-! Comprehensions that make data, or flags. -/
namespace Fd
open PySem PySem.Spec PyProof.Rows L2
open Enc (enc)
/-- a test, an expression, told by what they give -/
def EvB (tt : TT) (σ : L2.St) (H : Hp) (b : Bool) : Prop := ∀ Q : Bool → Hp → Prop, (∀ H', Same H H' → Q b H') → tt σ H Q
def EvP (te : TE) (σ : L2.St) (H : Hp) (P : V → Hp → Prop) : Prop := ∀ Q : VK, (∀ v H', Same H H' → P v H' → Q v H') → te σ H Q
/-- what one turn after the other adds -/
def outs {α : Type} (out : Nat → Option α) (i : Nat) : List α := (List.range i).filterMap out
theorem outs_zero {α : Type} (out : Nat → Option α) : outs out 0 = [] := rfl
theorem outs_none {α : Type} {out : Nat → Option α} {i : Nat} (h : out i = none) : outs out (i + 1) = outs out i := by
  unfold outs
  rw [List.range_succ, List.filterMap_append]
  simp [h]
theorem outs_some {α : Type} {out : Nat → Option α} {i : Nat} {a : α} (h : out i = some a) : outs out (i + 1) = outs out i ++ [a] := by
  unfold outs
  rw [List.range_succ, List.filterMap_append]
  simp [h]
theorem outs_len {α : Type} (out : Nat → Option α) (i : Nat) : (outs out i).length ≤ i := by
  have := List.length_filterMap_le out (List.range i)
  unfold outs
  simpa using this
theorem outs_map {α : Type} {out : Nat → Option α} {xs : List α} (h : ∀ i, out i = xs[i]?) : outs out xs.length = xs := by
  have key : ∀ k, k ≤ xs.length → outs out k = xs.take k := by
    intro k
    induction k with
    | zero => intro _; simp [outs_zero]
    | succ k ih =>
      intro hk
      have e : out k = some xs[k] := by rw [h k, List.getElem?_eq_getElem (by omega)]
      rw [outs_some e, ih (by omega), List.take_succ_eq_append_getElem (by omega)]
  rw [key _ (Nat.le_refl _), List.take_length]
theorem outs_filterMap {α β : Type} {out : Nat → Option β} {xs : List α} {f : α → Option β} (h : ∀ i, out i = xs[i]?.bind f) : outs out xs.length = xs.filterMap f := by
  have key : ∀ k, k ≤ xs.length → outs out k = (xs.take k).filterMap f := by
    intro k
    induction k with
    | zero => intro _; simp [outs_zero]
    | succ k ih =>
      intro hk
      have hx : xs[k]? = some xs[k] := List.getElem?_eq_getElem (by omega)
      rw [List.take_succ_eq_append_getElem (by omega), List.filterMap_append, ← ih (by omega)]
      cases e : f xs[k] with
      | none =>
        rw [outs_none (by rw [h k, hx]; exact e)]
        simp [e]
      | some b =>
        rw [outs_some (a := b) (by rw [h k, hx]; exact e)]
        simp [e]
  rw [key _ (Nat.le_refl _), List.take_length]
theorem wipe_one {σ : L2.St} {j : Nat} {x : Option V} : wipe ((wipe σ [j]).set j x) [j] = wipe σ [j] := by
  simp [wipe, List.set_set]
section
variable {J : It} {xs : List V} {G : Hp → Prop} {n : Nat} {Y : Nat → Hp → V → Hp → Prop}
/-- the walk gives data that stand already, or numbers: the heap stays -/
theorem lc_is {α : Type} [Enc α] (w : Walk J xs.length G (YAt xs)) {j : Nat} {tt : TT} {te : TE} {σ : L2.St} {H1 : Hp} {D : Addr} {Qd : Hp → Prop} (out : Nat → Option α) (hz : xs.length ≤ sizeLine) (hD : H1 D = none) (hG : ∀ H, Same H1 H → G H)
    (ht : ∀ i x H, xs[i]? = some x → Same H1 H → EvB tt ((wipe σ [j]).set j (some x)) H (out i).isSome)
    (he : ∀ i x H a, xs[i]? = some x → Same H1 H → out i = some a → EvP te ((wipe σ [j]).set j (some x)) H fun v H' => Is H' a v)
    (hQ : ∀ H', Same H1 H' → Ls H' D (outs out xs.length) → Qd H') :
    ∃ W : Nat → Nat → Hp → Prop, (∃ m, W 0 m (upd H1 D (.lst []))) ∧ ∀ i m H, W i m H →
      (J.stop i H ∧ Qd H) ∨ (J.go i H ∧ ∃ Nx : Hp → Prop, (∀ H', Nx H' → ∃ m', m' < m ∧ W (i + 1) m' H') ∧ ∀ x H', J.yld i H x H' → gName j x (wipe σ [j]) H' fun σ2 H2 => wipe σ2 [j] = wipe σ [j] ∧ tt σ2 H2 fun b H3 =>
        if b = true then te σ2 H3 fun y H4 => ∃ acc, H4 D = some (.lst acc) ∧ acc.length < sizeLine ∧ Nx (upd H4 D (.lst (acc ++ [y]))) else Nx H3) := by
  refine lc_it w (fun i H => Same H1 H ∧ Ls H D (outs out i)) ⟨same_new hD, [], upd_same, dats_nil⟩ (fun i H _ p => hG H p.1) ?_ fun H p => hQ H p.1 p.2
  rintro i x H H' hi ⟨sm, acc, hacc, hd⟩ ⟨rfl, hx⟩
  refine ⟨wipe_one, ht i x H' hx sm _ fun H3 s3 => ?_⟩
  cases e : out i with
  | none =>
    refine iteF ⟨sm.trans s3, acc, s3 _ _ hacc, ?_⟩
    rw [outs_none e]
    exact hd.same s3
  | some a =>
    refine iteT (he i x H3 a hx (sm.trans s3) e _ fun v H4 s4 hv => ?_)
    have h4 : H4 D = some (.lst acc) := s4 _ _ (s3 _ _ hacc)
    have hl : acc.length < sizeLine := by
      have h5 := dats_len hd
      have h6 := outs_len out i
      rw [List.length_map] at h5
      omega
    refine ⟨acc, h4, hl, ?_, ?_⟩
    · intro b o eb
      have nb : b ≠ D := fun z => by
        rw [z, hD] at eb
        cases eb
      rw [upd_ne nb]
      exact s4 _ _ (s3 _ _ (sm _ _ eb))
    · refine ⟨_, upd_same, ?_⟩
      rw [outs_some e, List.map_append]
      exact Dats.mono (tx_lst h4) _ _ (dats_app ((hd.same s3).same s4) (dats_cons hv dats_nil))
/-- .. whose elements are plain values -/
theorem lc_val (w : Walk J xs.length G (YAt xs)) {j : Nat} {tt : TT} {te : TE} {σ : L2.St} {H1 : Hp} {D : Addr} {Qd : Hp → Prop} (out : Nat → Option V) (hz : xs.length ≤ sizeLine) (hD : H1 D = none) (hG : ∀ H, Same H1 H → G H)
    (ht : ∀ i x H, xs[i]? = some x → Same H1 H → EvB tt ((wipe σ [j]).set j (some x)) H (out i).isSome)
    (he : ∀ i x H a, xs[i]? = some x → Same H1 H → out i = some a → EvP te ((wipe σ [j]).set j (some x)) H fun v H' => v = a)
    (hQ : ∀ H', Same H1 H' → H' D = some (.lst (outs out xs.length)) → Qd H') :
    ∃ W : Nat → Nat → Hp → Prop, (∃ m, W 0 m (upd H1 D (.lst []))) ∧ ∀ i m H, W i m H →
      (J.stop i H ∧ Qd H) ∨ (J.go i H ∧ ∃ Nx : Hp → Prop, (∀ H', Nx H' → ∃ m', m' < m ∧ W (i + 1) m' H') ∧ ∀ x H', J.yld i H x H' → gName j x (wipe σ [j]) H' fun σ2 H2 => wipe σ2 [j] = wipe σ [j] ∧ tt σ2 H2 fun b H3 =>
        if b = true then te σ2 H3 fun y H4 => ∃ acc, H4 D = some (.lst acc) ∧ acc.length < sizeLine ∧ Nx (upd H4 D (.lst (acc ++ [y]))) else Nx H3) := by
  refine lc_it w (fun i H => Same H1 H ∧ H D = some (.lst (outs out i))) ⟨same_new hD, upd_same⟩ (fun i H _ p => hG H p.1) ?_ fun H p => hQ H p.1 p.2
  rintro i x H H' hi ⟨sm, hacc⟩ ⟨rfl, hx⟩
  refine ⟨wipe_one, ht i x H' hx sm _ fun H3 s3 => ?_⟩
  cases e : out i with
  | none =>
    refine iteF ⟨sm.trans s3, ?_⟩
    rw [outs_none e]
    exact s3 _ _ hacc
  | some a =>
    refine iteT (he i x H3 a hx (sm.trans s3) e _ fun v H4 s4 hv => ?_)
    subst hv
    have h4 : H4 D = some (.lst (outs out i)) := s4 _ _ (s3 _ _ hacc)
    refine ⟨_, h4, by have := outs_len out i; omega, ?_, ?_⟩
    · intro b o eb
      have nb : b ≠ D := fun z => by
        rw [z, hD] at eb
        cases eb
      rw [upd_ne nb]
      exact s4 _ _ (s3 _ _ (sm _ _ eb))
    · rw [upd_same, outs_some e]
end
theorem evb_yes {σ : L2.St} {H : Hp} : EvB tYes σ H true := fun Q q => q H (Same.refl H)
/-- a range's numbers -/
def rngV (n : Nat) : List V := (List.range n).map fun i => V.int ((i : Nat) : Int)
theorem rngV_len (n : Nat) : (rngV n).length = n := by simp [rngV]
theorem rngV_get {n i : Nat} {x : V} (h : (rngV n)[i]? = some x) : i < n ∧ x = .int ((i : Nat) : Int) := by
  unfold rngV at h
  rw [List.getElem?_map] at h
  by_cases hi : i < n
  · rw [List.getElem?_range hi] at h
    exact ⟨hi, (Option.some.inj h).symm⟩
  · rw [List.getElem?_eq_none (by simp; omega)] at h
    cases h
theorem walk_rng {n : Nat} : Walk (Itr 0 n) (rngV n).length (fun _ => True) (YAt (rngV n)) := by
  rw [rngV_len]
  refine Walk.mono walk_range (fun _ h => h) fun i H x H' hi _ y => ?_
  obtain ⟨h1, h2⟩ := y
  refine ⟨h1, ?_⟩
  unfold rngV
  rw [List.getElem?_map, List.getElem?_range hi, h2]
  simp
theorem any_flags {α : Type} (f : α → Bool) (xs : List α) : (xs.map f).any id = xs.any f := by
  rw [List.any_map]
  rfl
theorem all_flags {α : Type} (f : α → Bool) (xs : List α) : (xs.map f).all id = xs.all f := by
  rw [List.all_map]
  rfl
end Fd

/-! enumerate(tuple), isinstance, short forms. -/
namespace Fd
open PySem PySem.Spec PyProof.Rows L2
open Enc (enc)
theorem make_enum (v : Value) {o : Obj} {Hs : Heap → Prop} (B : Begins v o Hs) :
    Meets (Builtin.«enumerate.__new__» ⟨[.type "enumerate", v], []⟩) (fun _ R s => Hs s.heap ∧
      R (.ok (.ret (.ref (s.heap.push o).objs.size))) { s with heap := (s.heap.push o).push { cls := .type "enumerate", data := .fields #[.none, .bool false, .ref s.heap.objs.size, rawInt 0, .none, .none] } }) :=
  .of_wp fun prog w A R s h => by
    obtain ⟨hp, g, d, tk, os⟩ := s
    obtain ⟨h1, h⟩ := h
    have sub := sub_enumerate
    have its : ∀ {A' : Around} {E : Value → Shared → Prop} {Q : Value → Shared → Prop}, Q (.ref hp.objs.size) ⟨hp.push o, g, d, tk, os⟩ → wpAny (model prog w) A' (pyIter v) Q E ⟨hp, g, d, tk, os⟩ := fun q => B.iter prog w _ _ ⟨hp, g, d, tk, os⟩ _ h1 q
    wp_walk using its
    refine wpAny_stack_any fun st => wpAny_pure ?_
    split
    · rename_i c _ _ _ _ _
      cases (c == Value.type "enumerate")
      · wp_walk using its
        exact ⟨_, rfl, h⟩
      · wp_walk using its
        exact ⟨_, rfl, h⟩
    · wp_walk using its
      exact ⟨_, rfl, h⟩
section
variable {prog : Program} {w : World} {A : Around} {E : Value → Shared → Prop} {s : Shared}
theorem enum_tuple {t : Addr} {items : Array Value} {Q : Value → Shared → Prop} (ht : s.heap.IsTuple t items)
    (h : ∀ h', IsEnum h' (s.heap.objs.size + 1) s.heap.objs.size 0 .none → h'.IsTupleIter s.heap.objs.size t 0 → (∀ b o, s.heap.get? b = some o → h'.get? b = some o) → Q (.ref (s.heap.objs.size + 1)) { s with heap := h' }) :
    wpAny (model prog w) A (call (.type "enumerate") [.ref t]) Q E s := by
  refine callType_new F.called_enumerate (by decide) (F.typeCall_enumerate_1 _) (F.newCall_enumerate_1 _) (fun obj => F.args_object_init_2 obj _) F.entry_enumerate_new (make_enum (.ref t) (begins_tuple t items)) ⟨ht, ?_⟩
  have hz : (s.heap.push { cls := .type "tuple_iterator", data := .fields #[.ref t, .int 0 0] }).objs.size = s.heap.objs.size + 1 := Heap.size_push ..
  show _ ∧ _
  have he : IsEnum ((s.heap.push { cls := .type "tuple_iterator", data := .fields #[.ref t, .int 0 0] }).push { cls := .type "enumerate", data := .fields #[.none, .bool false, .ref s.heap.objs.size, rawInt 0, .none, .none] }) (s.heap.objs.size + 1) s.heap.objs.size 0 .none := by
    rw [← hz]
    exact Heap.get?_push_size _ rfl
  rw [hz]
  exact ⟨⟨_, he, rfl⟩, h _ he ⟨_, Heap.get?_push_of_some _ (Heap.get?_push_size _ rfl), rfl, rfl⟩ fun b o x => Heap.get?_push_of_some _ (Heap.get?_push_of_some _ x)⟩
end
/-- the tuple at a, each item in a new pair -/
def IteT (K : PySem.W.Frag) (a : Addr) : It :=
  ⟨fun i H => ∃ (xs : List V) (x : V), SqT K H a xs ∧ xs[i]? = some x, fun i H v H' => ∃ T x, v = .ref T ∧ H T = none ∧ H' = upd H T (.tup [.int (i : Nat), x]) ∧ ∀ xs, SqT K H a xs → xs[i]? = some x, fun i H => ∃ xs : List V, SqT K H a xs ∧ xs.length = i⟩
theorem turn_enumT {P : Program} {w : World} {K : PySem.W.Frag} {elts : List Expr} {kk : Nat} {tpos : Pos} (a e it : Addr) :
    Turn P w K (.Tuple elts kk tpos) (IteT K a) [e, it] e (fun i h => (∃ old, IsEnum h e it ((i : Nat) : Int) old) ∧ h.IsTupleIter it a i ∧ e ≠ it ∧ a ≠ it ∧ e ≠ a) where
  mem := by simp
  obj := fun i h st b hb => by
    obtain ⟨⟨old, he⟩, ⟨o, ho, hc, hd⟩, _⟩ := st
    have e' : b = e ∨ b = it := by simpa using hb
    rcases e' with z | z
    · rw [z]
      exact ⟨_, he, fun v q => nomatch q⟩
    · rw [z]
      exact ⟨o, ho, fun v q => by rw [hd] at q; cases q⟩
  keep := fun i h h' st k => let ⟨⟨old, he⟩, hi, hne⟩ := st; ⟨⟨old, k e (by simp) _ he⟩, hi.at fun o q => k it (by simp) o q, hne⟩
  item := by
    intro X hP hw hK hc i pins s σ H E I hf st hg
    subst hP hw hK
    obtain ⟨⟨old, he⟩, hit, hne, hai, hea⟩ := st
    obtain ⟨xs, x, hq, hx⟩ := hg
    obtain ⟨its, rv, p, hz⟩ := I.tuple hq
    obtain ⟨u, hu, ru⟩ := rv.get hx
    have hel : e < s.heap.objs.size := Heap.lt_size he
    have hil : it < s.heap.objs.size := by
      obtain ⟨_, q, _⟩ := hit
      exact Heap.lt_size q
    have hi : i < its.toArray.size := by
      have := (List.getElem?_eq_some_iff.mp hu).1
      simpa using this
    have hcalm := I.ok.hd hc
    refine wpAny_pyNext_enum_itemD (Draws.tuple (A := X.A.in1) (by simpa using hcalm) it a hai its.toArray) he ⟨hit, p⟩ hi hne (by simp; exact ⟨hne, hea⟩) fun y h' tk hy ho hst' hT hsz hk => ?_
    have ey : y = u := by
      have hy' : its[i]? = some y := by simpa using hy
      rw [hu] at hy'
      exact (Option.some.inj hy').symm
    subst ey
    refine ⟨_, rfl, wpAny_letOwnedTupleGo_enum (s := { s with heap := h', toks := tk + 1 }) ho fun h'' he' sb => ?_⟩
    have hT2 : h''.get? s.heap.objs.size = some { cls := .type "tuple", data := .seq #[.int i tk, y] } := (sb.2 _ (Nat.ne_of_gt hel)).trans hT
    have new : ObjOk X.prog X.w (upd H s.heap.objs.size (.tup [.int (i : Nat), x])) h'' s.heap.objs.size (.tup [.int (i : Nat), x]) :=
      ⟨by show 2 ≤ sizeLine; decide, [.int i tk, y], .cons ⟨_, rfl⟩ (.cons ru .nil), ⟨_, hT2, rfl, _, rfl⟩⟩
    have I1 : Inv X pins σ (upd H s.heap.objs.size (.tup [.int (i : Nat), x])) { s with heap := h'', toks := tk + 1 } :=
      I.turnedNew (ch := [e, it]) (fun b ob hb q => (sb.2 b (fun z => hb (by simp [z]))).trans (hk b ob (fun z => hb (by simp [z])) (fun z => hb (by simp [z])) q)) hf (Nat.le_refl _) new
    refine ⟨.ref s.heap.objs.size, _, I1, rfl, ⟨_, x, rfl, I.hok.fresh (Nat.le_refl _), rfl, fun ys hy2 => by rw [I.tuple_inj hy2 hq]; exact hx⟩, ⟨⟨y, ?_⟩, hst'.1.at fun o q => (sb.2 it (Ne.symm hne)).trans q, hne, hai, hea⟩, fun b hb => ?_⟩
    · have e1 : ((i + 1 : Nat) : Int) = (i : Int) + 1 := by omega
      rw [e1]
      exact he'
    · have e' : b = e ∨ b = it := by simpa using hb
      have hb' : b < s.heap.objs.size := by
        rcases e' with z | z
        · rw [z]
          exact hel
        · rw [z]
          exact hil
      rw [upd_ne (Nat.ne_of_lt hb')]
      exact (hf b hb).1
  done := by
    intro X hP hw hK hc i pins s σ H E I hf st hg
    subst hP hw hK
    obtain ⟨⟨old, he⟩, hit, hne, hai, hea⟩ := st
    obtain ⟨xs, hq, hx⟩ := hg
    obtain ⟨its, rv, p, hz⟩ := I.tuple hq
    obtain ⟨f0, f1, f2, f3, f4, f5⟩ := hf it (by simp)
    have hl := rv.length
    have hcalm := I.ok.hd hc
    have hsz : i = its.toArray.size := by simp; omega
    subst hsz
    exact wpAny_pyNext_enum_endD (Draws.tuple (A := X.A.in1) (by simpa using hcalm) it a hai its.toArray) he ⟨hit, p⟩ fun h' eb => ⟨rfl, I.turned (t' := s.toks) (fun b o hb q => eb b o hb q) f0 f1 f3 f4 f5⟩
  self := fun A i s Q E st h => let ⟨⟨_, he⟩, _⟩ := st; wpAny_pyIter_enum he h
def iEnumT (K : PySem.W.Frag) (ta : TA) : TI := fun σ H R => ta σ H fun vs H1 => ∃ a xs, vs = [.ref a] ∧ SqT K H1 a xs ∧ R (IteT K a) H1
theorem pi_enumT {X : Cx} {e : Expr} {ta : TA} {p pos tpos : Pos} {elts : List Expr} {kk : Nat} (hg : Gl X "enumerate") (hm : X.mg "enumerate" = none) (ha : PA X [e] ta) (hs : starEach [e] X.env = [(false, eval e X.env)] := by rfl) :
    PI X (.Tuple elts kk tpos) (.Call (.Name "enumerate" p) [e] [] pos) (iEnumT X.K ta) := by
  refine ⟨fun pins s σ H R I h => ?_⟩
  refine Call_ (ld_blt I hg hm boot_enumerate (PyProof.Rows.callWith_type1 (thn (ha.run pos pins s σ H _ I h) fun us s1 ⟨vs, H1, I1, r1, q1⟩ => ?_) hs rfl))
  obtain ⟨a, xs, ex, hq, q⟩ := q1
  subst ex
  cases r1 with
  | cons r rr =>
    cases rr
    cases r
    obtain ⟨its, rv, p', hz⟩ := I1.tuple hq
    have low : a < s1.heap.objs.size := p'.elim fun o e => Heap.lt_size e.1
    refine enum_tuple p' fun h' he hit hk => wpAny_pyIter_enum he ?_
    have I2 : Inv X pins σ H1 { s1 with heap := h' } := I1.kept (t' := s1.toks) hk
    refine ⟨s1.heap.objs.size + 1, [s1.heap.objs.size + 1, s1.heap.objs.size], _, _, H1, rfl, I2, turn_enumT a (s1.heap.objs.size + 1) s1.heap.objs.size, ⟨⟨.none, he⟩, hit, Nat.succ_ne_self _, Nat.ne_of_lt low, Nat.ne_of_gt (Nat.lt_succ_of_lt low)⟩, fun b hb => ?_, q⟩
    have hle : s1.heap.objs.size ≤ b := by
      have e' : b = s1.heap.objs.size + 1 ∨ b = s1.heap.objs.size := by simpa using hb
      rcases e' with z | z
      · rw [z]
        exact Nat.le_succ _
      · exact Nat.le_of_eq z.symm
    exact I1.fpOk hle (I1.hok.fresh hle)
theorem walk_enumT {K : PySem.W.Frag} {a : Addr} {xs : List V} : Walk (IteT K a) xs.length (fun H => SqT K H a xs) (YPair (fun i => some (.int (i : Nat))) (fun i => xs[i]?)) := by
  refine ⟨fun i _ hi q => ⟨xs, xs[i], q, by simp [hi]⟩, fun _ q => ⟨xs, q, rfl⟩, fun i H v H' _ q y => ?_⟩
  obtain ⟨T, x, h1, h2, h3, h4⟩ := y
  exact ⟨T, .int (i : Nat), x, h1, h2, h3, rfl, h4 xs q⟩
/-! ### isinstance -/
/-- a datum's type -/
def tyD : D → String
  | .none => "NoneType"
  | .num _ => "int"
  | .text _ => "str"
  | .tup _ => "tuple"
theorem dat_ty {K : PySem.W.Frag} {H : Hp} {d : D} {v : V} (h : Dat H d v) : TyX K H v (.type (tyD d)) := by
  cases d with
  | none =>
    unfold Dat at h
    subst h
    exact .base .non
  | num i =>
    rw [dat_num] at h
    subst h
    exact .base (.int i)
  | text x =>
    unfold Dat at h
    subst h
    exact .base (.str x)
  | tup ks =>
    obtain ⟨a, vs, rfl, ha, _⟩ := dat_tup.mp h
    exact .base (.tup ha)
/-- the classes that the program asks for -/
inductive Ty5 where
  | int | bool | tuple | list | str
def Ty5.name : Ty5 → String
  | .int => "int"
  | .bool => "bool"
  | .tuple => "tuple"
  | .list => "list"
  | .str => "str"
def isD : Ty5 → D → Bool
  | .int, .num _ => true
  | .tuple, .tup _ => true
  | .str, .text _ => true
  | _, _ => false
theorem kit_dat (K : PySem.W.Frag) (T : Ty5) (d : D) : PySem.W.kitOne K (.type (tyD d)) (.type T.name) = some (isD T d) := by
  cases T <;> cases d <;> simp only [tyD, isD, Ty5.name] <;> exact kit_ty (by decide +kernel)
def rIsiD (T : Ty5) : List V → Hp → VK → Prop := fun xs H Q => ∃ (d : D) (x : V), xs = [x, .ty T.name] ∧ Dat H d x ∧ Q (.bl (isD T d)) H
theorem call_isiD (T : Ty5) {X : Cx} : CallR X (.builtin "isinstance") (rIsiD T) := by
  intro pins s σ H xs us Q I r h
  obtain ⟨d, x, rfl, hx, q⟩ := h
  exact call_isi pins s σ H _ us Q I r ⟨x, .ty T.name, .type (tyD d), .type T.name, isD T d, rfl, .ty _, dat_ty hx, kit_dat X.K T d, q⟩
/-- a, b = t, t a tuple of data -/
def gTupD (n : Nat) (t : TGs) : TG := fun v σ H Q => ∃ ds : List D, Dat H (.tup ds) v ∧ ds.length = n ∧ ∀ xs, Dats H ds xs → t xs σ H Q
theorem pg_tupD {X : Cx} {es : List Expr} {k : Nat} {pos : Pos} {t : TGs} {n : Nat} (hc : X.calm = true) (h : PGs X es t) (hn : (assignEach es X.env).length = n := by rfl) (hst : (assignEach es X.env).findIdx? (·.1) = none := by rfl) : PG X (.Tuple es k pos) (gTupD n t) := by
  refine ⟨fun pins s σ H v u Q I r hw => ?_⟩
  obtain ⟨ds, hd, hl, q⟩ := hw
  obtain ⟨a, vs, rfl, ha, hvs⟩ := dat_tup.mp hd
  exact (pg_tup hc h hn hst).run pins s σ H _ u Q I r ⟨a, vs, rfl, SqT.of ha, by rw [dats_len hvs]; exact hl, q vs hvs⟩
theorem nums_map (ns : List Nat) : ns.map enc = (ns.map fun n : Nat => ((n : Nat) : Int)).map NestedKey.num := by
  rw [List.map_map]
  rfl
/-! ### short forms -/
section
variable {X : Cx}
theorem pgn (i : Nat) {x : Str} {pos : Pos} (nd : X.N.Nodup) (hN : X.N[i]? = some x := by rfl) (hl : Loc X.env.scope x := by first | exact Or.inl rfl | exact Or.inr rfl)
    (hf : X.fn x = true ∨ X.env.scope.names.lookup x = some .local := by first | exact .inl rfl | exact .inr rfl | assumption) : PG X (.Name x pos) (gName i) := pg_name nd hN hl hf
theorem pss (i : Nat) {x : Str} {e : Expr} {te : TE} {pos pos' : Pos} (nd : X.N.Nodup) (he : PE X e te) (hN : X.N[i]? = some x := by rfl) (hl : Loc X.env.scope x := by first | exact Or.inl rfl | exact Or.inr rfl) (hs : swapsWith e (some (.Name x pos')) pos.line X.env = pure false := by rfl)
    (hf : X.fn x = true ∨ X.env.scope.names.lookup x = some .local := by first | exact .inl rfl | exact .inr rfl | assumption) : PS X (.Assign [.Name x pos'] e pos) (tAsg te (gName i)) := ps_set nd hN hl he hs hf
theorem pe_gi {x : Str} {i : Int} {pos : Pos} (h : ∃ t, X.mg x = some (.int i t)) (hg : Gl X x := by rfl) (hd : (x == ("__debug__" : Str)) = false := by decide) : PE X (.Name x pos) (tC (.int i)) := by
  obtain ⟨t, h⟩ := h
  exact pe_glob hg h ⟨t, rfl⟩ hd
theorem pe_bt {x : Str} {T : String} {pos : Pos} (hm : X.mg x = none) (hg : Gl X x := by rfl) (hv : bootBuiltins x = some (.type T) := by decide +kernel) (hn : x ≠ "__name__" := by decide) (hd : (x == ("__debug__" : Str)) = false := by decide) : PE X (.Name x pos) (tC (.ty T)) :=
  pe_bltn hg hm hv rfl hn hd
end
theorem _root_.L2.Room.units8 {k : Nat} {A : Around} (r : Room k A) : A.units + 8 < cLine := by
  have := r.units
  omega
def topS (i : Nat) : Stmt := PySem.Challenge.pw_falsedays_k71_whole_least_false_days_of.main.body.getD i (.Pass ⟨0, 0, 0, 0⟩)
/-- the module's numbers -/
structure Cs (mg : Str → Option Value) : Prop where
  MOST_SIZE : ∃ t, mg "MOST_SIZE" = some (.int 4 t)
  MOST_STANDINGS : ∃ t, mg "MOST_STANDINGS" = some (.int 20 t)
  MOST_PEOPLE : ∃ t, mg "MOST_PEOPLE" = some (.int 6 t)
  MOST_DAYS : ∃ t, mg "MOST_DAYS" = some (.int 2000 t)
end Fd

/-! Rules for a block: what they name of the context is named from outside. -/
namespace Fd
open PySem PySem.Spec PyProof.Rows L2
open Enc (enc)
section
variable {X : Cx}
theorem pe_fldK (K' : PySem.W.Frag) {e : Expr} {f : Str} {pos : Pos} {ta : TE} (hK : X.K = K') (he : PE X e ta) (hb : attributeBase e f X.env (eval e X.env) = eval e X.env) : PE X (.Attribute e f pos) (tFld K' ta f) := by
  subst hK
  exact pe_fld he hb
theorem op_inNK (K' : PySem.W.Frag) (hK : X.K = K') (hu : X.A.units + 64 < cLine) : OpR X (compareOp .In) (rInN K' false) := by
  subst hK
  exact op_inN hu
theorem op_notInNK (K' : PySem.W.Frag) (hK : X.K = K') (hu : X.A.units + 64 < cLine) : OpR X (compareOp .NotIn) (rInN K' true) := by
  subst hK
  exact op_notInN hu
theorem op_inDNP (P' : Program) (w' : World) (hP : X.prog = P') (hw : X.w = w') (hu : X.A.units + 64 < cLine) : OpR X (compareOp .In) (rInDN P' w' false) := by
  subst hP hw
  exact op_inDN hu
theorem op_notInDNP (P' : Program) (w' : World) (hP : X.prog = P') (hw : X.w = w') (hu : X.A.units + 64 < cLine) : OpR X (compareOp .NotIn) (rInDN P' w' true) := by
  subst hP hw
  exact op_notInDN hu
theorem pe_getNP (P' : Program) (w' : World) {o i : Expr} {pos : Pos} {td ty : TE} (hP : X.prog = P') (hw : X.w = w') (hu : X.A.units + 64 < cLine) (ho : PE X o td) (hi : PE X i ty) (hs : NoSl i) : PE X (.Subscript o i pos) (tGetN P' w' td ty) := by
  subst hP hw
  exact pe_getN hu ho hi hs
theorem pe_get2NP (P' : Program) (w' : World) {o e f : Expr} {apos cpos : Pos} {td ty tx : TE} (hP : X.prog = P') (hw : X.w = w') (hu : X.A.units + 64 < cLine) (ho : PE X o td) (he : PE X e ty) (hf : PE X f tx) (m : M2 X o "get" apos e f cpos) :
    PE X (.Call (.Attribute o "get" apos) [e, f] [] cpos) (tGet2N P' w' td ty tx) := by
  subst hP hw
  exact pe_get2N hu ho he hf m
theorem pe_dnewNP (P' : Program) (w' : World) {pos : Pos} (hP : X.prog = P') (hw : X.w = w') : PE X (.Dict [] [] pos) (tDNewN P' w') := by
  subst hP hw
  exact pe_dnewN
theorem pi_listK (K' : PySem.W.Frag) {tg l : Expr} {tl : TE} (hK : X.K = K') (hl : PE X l tl) : PI X tg l (iList K' tl) := by
  subst hK
  exact pi_list hl
theorem pi_tupK (K' : PySem.W.Frag) {tg l : Expr} {tl : TE} (hK : X.K = K') (hl : PE X l tl) : PI X tg l (iTup K' tl) := by
  subst hK
  exact pi_tup hl
theorem cr_anyK (K' : PySem.W.Frag) (hK : X.K = K') (hc : X.calm = true) : CallR X (.builtin "any") (rAny K') := by
  subst hK
  exact cr_any hc
theorem cr_allK (K' : PySem.W.Frag) (hK : X.K = K') (hc : X.calm = true) : CallR X (.builtin "all") (rAll K') := by
  subst hK
  exact cr_all hc
theorem cr_lenDK (K' : PySem.W.Frag) (hK : X.K = K') : CallR X (.builtin "len") (rLenD K') := by
  subst hK
  exact cr_lenD
theorem ix_listK (K' : PySem.W.Frag) (hK : X.K = K') : IxR X (rIxL K') := by
  subst hK
  exact ix_list
theorem ix_lsdK (K' : PySem.W.Frag) (hK : X.K = K') : IxR X (rIxLd K') := by
  subst hK
  exact ix_lsd
theorem sl_lsdK (K' : PySem.W.Frag) (hK : X.K = K') : SlR X (rSlLd K') := by
  subst hK
  exact sl_lsd
theorem pg_tupK (K' : PySem.W.Frag) {es : List Expr} {k : Nat} {pos : Pos} {t : TGs} (hK : X.K = K') (hc : X.calm = true) (h : PGs X es t) {n : Nat}
    (hn : (assignEach es X.env).length = n := by rfl) (hst : (assignEach es X.env).findIdx? (·.1) = none := by rfl) : PG X (.Tuple es k pos) (gTup K' n t) := by
  subst hK
  exact pg_tup hc h hn hst
end
end Fd

/-! Comprehensions of two clauses. -/
namespace Fd
open PySem PySem.Spec PyProof.Rows L2
open Enc (enc)
/-- all that stands off D stays -/
def Sd (D : Addr) (H H' : Hp) : Prop := ∀ b o, H b = some o → b ≠ D → H' b = some o
theorem Sd.refl {D : Addr} (H : Hp) : Sd D H H := fun _ _ e _ => e
theorem Sd.trans {D : Addr} {H H1 H2 : Hp} (a : Sd D H H1) (b : Sd D H1 H2) : Sd D H H2 := fun x o e n => b x o (a x o e n) n
theorem Same.sd {D : Addr} {H H' : Hp} (s : Same H H') : Sd D H H' := fun b o e _ => s b o e
theorem Sd.tx {D : Addr} {H H' : Hp} (s : Sd D H H') (n : ∀ xs, H D ≠ some (.tup xs)) : Tx H H' := fun a xs e => s a _ e fun z => n xs (z ▸ e)
theorem sd_upd {D : Addr} {H : Hp} {o : HO} : Sd D H (upd H D o) := fun b ob e n => by
  rw [upd_ne n]
  exact e
theorem wipe_two {σ : L2.St} {j0 j1 : Nat} {x : Option V} (h : j0 ≠ j1) : wipe ((wipe σ [j0, j1]).set j0 x) [j0, j1] = wipe σ [j0, j1] := by
  simp only [wipe]
  rw [List.set_set, List.set_comm _ _ h, List.set_set, List.set_set]
section
variable {J : It} {n : Nat} {G : Hp → Prop} {Y : Nat → Hp → V → Hp → Prop}
theorem lc_from (w : Walk J n G Y) {g : TG} {tt : TT} {te : TE} {vs : List Nat} {σ : L2.St} {H0 : Hp} {D : Addr} {Qd : Hp → Prop} (Pv : Nat → Hp → Prop) (h0 : Pv 0 H0) (hG : ∀ i H, i ≤ n → Pv i H → G H)
    (hs : ∀ i x H H', i < n → Pv i H → Y i H x H' → g x (wipe σ vs) H' fun σ2 H2 => wipe σ2 vs = wipe σ vs ∧ tt σ2 H2 fun b H3 =>
      if b = true then te σ2 H3 fun y H4 => ∃ acc, H4 D = some (.lst acc) ∧ acc.length < sizeLine ∧ Pv (i + 1) (upd H4 D (.lst (acc ++ [y]))) else Pv (i + 1) H3) (hd : ∀ H, Pv n H → Qd H) :
    ∃ W : Nat → Nat → Hp → Prop, (∃ m, W 0 m H0) ∧ ∀ i m H, W i m H →
      (J.stop i H ∧ Qd H) ∨ (J.go i H ∧ ∃ Nx : Hp → Prop, (∀ H', Nx H' → ∃ m', m' < m ∧ W (i + 1) m' H') ∧ ∀ x H', J.yld i H x H' → g x (wipe σ vs) H' fun σ2 H2 => wipe σ2 vs = wipe σ vs ∧ tt σ2 H2 fun b H3 =>
        if b = true then te σ2 H3 fun y H4 => ∃ acc, H4 D = some (.lst acc) ∧ acc.length < sizeLine ∧ Nx (upd H4 D (.lst (acc ++ [y]))) else Nx H3) := by
  refine ⟨fun i m H => m = n - i ∧ i ≤ n ∧ Pv i H, ⟨n, by simp, Nat.zero_le _, h0⟩, ?_⟩
  rintro i m H ⟨rfl, hi, p⟩
  have q := hG i H hi p
  by_cases hlt : i < n
  · refine .inr ⟨w.goes i H hlt q, Pv (i + 1), fun H' p' => ⟨n - (i + 1), by omega, rfl, hlt, p'⟩, fun x H' y => hs i x H H' hlt p (w.yields i H x H' hlt q y)⟩
  · have e : i = n := by omega
    subst e
    exact .inl ⟨w.stops H q, hd H p⟩
end
theorem flat_succ {γ : Type} (out : Nat → List γ) (i : Nat) : (List.range (i + 1)).flatMap out = (List.range i).flatMap out ++ out i := by
  rw [List.range_succ, List.flatMap_append]
  simp
theorem flat_len {γ : Type} {out : Nat → List γ} {b : Nat} : ∀ {n : Nat}, (∀ i, i < n → (out i).length ≤ b) → ((List.range n).flatMap out).length ≤ n * b
  | 0, _ => Nat.zero_le _
  | n + 1, h => by
    rw [flat_succ, List.length_append, Nat.succ_mul]
    have := flat_len (n := n) fun i hi => h i (by omega)
    have := h n (by omega)
    omega
theorem flat_get {α γ : Type} {f : α → List γ} {xs : List α} {out : Nat → List γ} (h : ∀ i x, xs[i]? = some x → out i = f x) : (List.range xs.length).flatMap out = xs.flatMap f := by
  have key : ∀ k, k ≤ xs.length → (List.range k).flatMap out = (xs.take k).flatMap f := by
    intro k
    induction k with
    | zero => intro _; simp
    | succ k ih =>
      intro hk
      have e : xs[k]? = some xs[k] := List.getElem?_eq_getElem (by omega)
      rw [flat_succ, ih (by omega), List.take_succ_eq_append_getElem (by omega), List.flatMap_append, h k _ e]
      simp
  rw [key _ (Nat.le_refl _), List.take_length]
theorem lc2_is {γ : Type} [Enc γ] {J : It} {xs : List V} {G : Hp → Prop} (w : Walk J xs.length G (YAt xs)) {j0 j1 : Nat} (hj : j0 ≠ j1) {wi1 : TI} {te : TE} {σ : L2.St} {H1 : Hp} {D : Addr} {Qd : Hp → Prop} (out : Nat → List γ) (b : Nat)
    (hb : ∀ i, i < xs.length → (out i).length ≤ b) (hz : xs.length * b ≤ sizeLine) (hD : H1 D = none) (hG : ∀ H, Same H1 H → G H)
    (hin : ∀ i x H, xs[i]? = some x → Same H1 H → (∃ vs : List V, H D = some (HO.lst vs)) → ∀ R : It → Hp → Prop, (∀ (J1 : It) (ys : List V) (G1 : Hp → Prop) (H' : Hp), Same H H' → Walk J1 ys.length G1 (YAt ys) → ys.length = (out i).length → (∀ H'', Sd D H' H'' → G1 H'') →
      (∀ (j : Nat) (y : V) (H'' : Hp) (c : γ), ys[j]? = some y → Same H1 H'' → Sd D H' H'' → (out i)[j]? = some c → EvP te ((wipe ((wipe σ [j0, j1]).set j0 (some x)) [j1]).set j1 (some y)) H'' fun v H3 => Is H3 c v) → R J1 H') →
      wi1 ((wipe σ [j0, j1]).set j0 (some x)) H R)
    (hQ : ∀ H', Same H1 H' → Ls H' D ((List.range xs.length).flatMap out) → Qd H') :
    ∃ W : Nat → Nat → Hp → Prop, (∃ m, W 0 m (upd H1 D (.lst []))) ∧ ∀ i m H, W i m H →
      (J.stop i H ∧ Qd H) ∨ (J.go i H ∧ ∃ Nx : Hp → Prop, (∀ H', Nx H' → ∃ m', m' < m ∧ W (i + 1) m' H') ∧ ∀ x H', J.yld i H x H' → gName j0 x (wipe σ [j0, j1]) H' fun σ2 H2 => wipe σ2 [j0, j1] = wipe σ [j0, j1] ∧ tYes σ2 H2 fun b H3 =>
        if b = true then wi1 σ2 H3 fun J1 H4 => ∃ W1 : Nat → Nat → Hp → Prop, (∃ m, W1 0 m H4) ∧ ∀ j k H, W1 j k H →
          (J1.stop j H ∧ Nx H) ∨ (J1.go j H ∧ ∃ Nx1 : Hp → Prop, (∀ H', Nx1 H' → ∃ k', k' < k ∧ W1 (j + 1) k' H') ∧ ∀ x H', J1.yld j H x H' → gName j1 x (wipe σ2 [j1]) H' fun σ3 H5 => wipe σ3 [j1] = wipe σ2 [j1] ∧ tYes σ3 H5 fun b H6 =>
            if b = true then te σ3 H6 fun y H7 => ∃ acc, H7 D = some (.lst acc) ∧ acc.length < sizeLine ∧ Nx1 (upd H7 D (.lst (acc ++ [y]))) else Nx1 H6)
        else Nx H3) := by
  refine ⟨fun i m H => m = xs.length - i ∧ i ≤ xs.length ∧ Same H1 H ∧ Ls H D ((List.range i).flatMap out), ⟨xs.length, by simp, Nat.zero_le _, same_new hD, [], upd_same, dats_nil⟩, ?_⟩
  rintro i m H ⟨rfl, hi, sm, ls⟩
  have q := hG H sm
  by_cases hlt : i < xs.length
  · refine .inr ⟨w.goes i H hlt q, fun H => Same H1 H ∧ Ls H D ((List.range (i + 1)).flatMap out), fun H' p' => ⟨xs.length - (i + 1), by omega, rfl, hlt, p'⟩, fun x H' y => ?_⟩
    obtain ⟨rfl, hx⟩ := w.yields i H x H' hlt q y
    refine ⟨wipe_two hj, ?_⟩
    show wi1 ((wipe σ [j0, j1]).set j0 (some x)) H' _
    have hDn : ∃ vs : List V, H' D = some (HO.lst vs) := by
      obtain ⟨vs, e, _⟩ := ls
      exact ⟨vs, e⟩
    refine hin i x H' hx sm hDn _ fun J1 ys G1 H2 s2 w1 hl hg1 he => ?_
    refine lc_from w1 (fun j H => Same H1 H ∧ Sd D H2 H ∧ Ls H D ((List.range i).flatMap out ++ (out i).take j)) ⟨sm.trans s2, Sd.refl _, ?_⟩ (fun j H _ p => hg1 H p.2.1) ?_ ?_
    · rw [List.take_zero, List.append_nil]
      exact ls.same s2
    · rintro j z H3 H3' hj2 ⟨sm3, sd3, acc, hacc, hd⟩ ⟨rfl, hz2⟩
      have hlt2 : j < (out i).length := by omega
      have hc : (out i)[j]? = some (out i)[j] := List.getElem?_eq_getElem hlt2
      refine ⟨wipe_one, ?_⟩
      show te _ H3' _
      refine he j z H3' _ hz2 sm3 sd3 hc _ fun v H4 s4 hv => ?_
      have h4 : H4 D = some (.lst acc) := s4 _ _ hacc
      have hl2 : acc.length < sizeLine := by
        have h5 := dats_len hd
        rw [List.length_map, List.length_append, List.length_take] at h5
        have h6 := flat_len (out := out) (b := b) (n := i) fun k hk => hb k (by omega)
        have h7 := hb i hlt
        have h8 : (i + 1) * b ≤ xs.length * b := Nat.mul_le_mul_right _ hlt
        rw [Nat.succ_mul] at h8
        omega
      refine ⟨acc, h4, hl2, ?_, ?_, ?_⟩
      · intro b o eb
        have nb : b ≠ D := fun z => by
          rw [z, hD] at eb
          cases eb
        rw [upd_ne nb]
        exact s4 _ _ (sm3 _ _ eb)
      · exact (sd3.trans (Same.sd s4)).trans sd_upd
      · refine ⟨_, upd_same, ?_⟩
        rw [List.take_succ_eq_append_getElem hlt2, ← List.append_assoc, List.map_append]
        exact Dats.mono (tx_lst h4) _ _ (dats_app (hd.same s4) (dats_cons hv dats_nil))
    · rintro H3 ⟨sm3, _, ls3⟩
      rw [hl, List.take_length] at ls3
      rw [flat_succ]
      exact ⟨sm3, ls3⟩
  · have e : i = xs.length := by omega
    subst e
    exact .inl ⟨w.stops H q, hQ H sm ls⟩
end Fd

/-! The small checks. -/
namespace Fd
open PySem PySem.Spec PyProof.Rows L2
open Enc (enc)
abbrev s_is_integer : Stmt := topS 7
theorem sc_is_integer : FnScope ["thing"] ["thing"] (defScope s_is_integer) := ⟨rfl, rfl, rfl, by decide +kernel, rfl, by decide +kernel, by decide +kernel⟩
abbrev s_is_within : Stmt := topS 8
theorem sc_is_within : FnScope ["thing", "least", "most"] ["thing", "least", "most"] (defScope s_is_within) := ⟨rfl, rfl, rfl, by decide +kernel, rfl, by decide +kernel, by decide +kernel⟩
abbrev s_is_triple : Stmt := topS 9
theorem sc_is_triple : FnScope ["thing"] ["thing"] (defScope s_is_triple) := ⟨rfl, rfl, rfl, by decide +kernel, rfl, by decide +kernel, by decide +kernel⟩
abbrev s_are_ascending : Stmt := topS 10
theorem sc_are_ascending : FnScope ["things", "at"] ["things"] (defScope s_are_ascending) := ⟨rfl, rfl, rfl, by decide +kernel, rfl, by decide +kernel, by decide +kernel⟩
section
variable {P : Program} {w : World} {K : PySem.W.Frag} {mg : Str → Option Value} {base : Heap}
def spIsInteger : Sp := fun vs H Q _ => ∃ i : Int, vs = [.int i] ∧ Q (.bl true) H
theorem ok_is_integer (B : Bi mg) (d : Df K mg "is_integer" "is_integer" s_is_integer ["thing"]) : Ok P w K mg base 1 "is_integer" ["thing"] spIsInteger := by
  refine d.ok sc_is_integer (fun vs H Q E h => ?_) (fun f cdv A outer s H vs Q E hr h => ?_)
  · obtain ⟨i, rfl, _⟩ := h
    rfl
  · obtain ⟨i, rfl, q⟩ := h
    refine ⟨_, (pss_one (ps_ret (pe_and (pe_callB (call_isiD .int) (by rfl) B.isinstance (by decide +kernel) (pa_cons (pv 0) (pa_cons (pe_bt (T := "int") B.int) pa_nil))) (pe_one (pe_not (pe_callB (call_isiD .bool) (by rfl) B.isinstance (by decide +kernel) (pa_cons (pv 0) (pa_cons (pe_bt (T := "bool") B.bool) pa_nil)))))))), ?_⟩
    exact ⟨_, rfl, .num i, _, rfl, dat_num.mpr rfl, true, rfl, iteT ⟨_, rfl, .num i, _, rfl, dat_num.mpr rfl, false, rfl, q⟩⟩
def spIsWithin : Sp := fun vs H Q _ => ∃ i lo hi : Int, vs = [.int i, .int lo, .int hi] ∧ Q (.bl (decide (lo ≤ i ∧ i ≤ hi))) H
theorem ok_is_within (o_is_integer : Ok P w K mg base 1 "is_integer" ["thing"] spIsInteger) (d : Df K mg "is_within" "is_within" s_is_within ["thing", "least", "most"]) : Ok P w K mg base 2 "is_within" ["thing", "least", "most"] spIsWithin := by
  refine d.ok sc_is_within (fun vs H Q E h => ?_) (fun f cdv A outer s H vs Q E hr h => ?_)
  · obtain ⟨i, lo, hi, rfl, _⟩ := h
    rfl
  · obtain ⟨i, lo, hi, rfl, q⟩ := h
    refine ⟨_, (pss_one (ps_ret (pe_and (pe_fn o_is_integer hr (pa_cons (pv 0) pa_nil)) (pe_one (pe_chain op_le op_le (pv 1) (pv 0) (pv 2)))))), ?_⟩
    refine ⟨_, rfl, i, rfl, true, rfl, iteT ⟨_, rfl, _, rfl, lo, i, rfl, rfl, _, rfl, ?_⟩⟩
    by_cases h1 : lo ≤ i
    · rw [decide_eq_true h1]
      refine iteT ⟨_, rfl, i, hi, rfl, rfl, ?_⟩
      have e : decide (i ≤ hi) = decide (lo ≤ i ∧ i ≤ hi) := by simp [h1]
      show Q (.bl (decide (i ≤ hi))) H
      rw [e]
      exact q
    · rw [decide_eq_false h1]
      refine iteF ?_
      have e : (false : Bool) = decide (lo ≤ i ∧ i ≤ hi) := by simp [h1]
      rw [e]
      exact q
def spIsTriple : Sp := fun vs H Q _ => ∃ (x : V) (ds : List D), vs = [x] ∧ Dat H (.tup ds) x ∧ Q (.bl (decide ((ds.length : Int) = 3))) H
theorem ok_is_triple (B : Bi mg) (d : Df K mg "is_triple" "is_triple" s_is_triple ["thing"]) : Ok P w K mg base 1 "is_triple" ["thing"] spIsTriple := by
  refine d.ok sc_is_triple (fun vs H Q E h => ?_) (fun f cdv A outer s H vs Q E hr h => ?_)
  · obtain ⟨x, ds, rfl, _⟩ := h
    rfl
  · obtain ⟨x, ds, rfl, hx, q⟩ := h
    refine ⟨_, (pss_one (ps_ret (pe_and (pe_callB (call_isiD .tuple) (by rfl) B.isinstance (by decide +kernel) (pa_cons (pv 0) (pa_cons (pe_bt (T := "tuple") B.tuple) pa_nil))) (pe_one (pe_cmpR op_eq (pe_callB cr_lenD (by rfl) B.len (by decide +kernel) (pa_cons (pv 0) pa_nil)) pe_int (nomark _)))))), ?_⟩
    refine ⟨_, rfl, .tup ds, x, rfl, hx, true, rfl, iteT ⟨_, rfl, x, ds, rfl, .inl hx, rfl, ?_⟩⟩
    have e : decide (V.int (ds.length : Int) = V.int 3) = decide ((ds.length : Int) = 3) := by simp
    show Q (.bl (decide (V.int (ds.length : Int) = V.int 3))) H
    rw [e]
    exact q
/-- each row below the next one -/
def rowsUp : List (List Int) → Bool
  | [] => true
  | [_] => true
  | x :: y :: r => dltAll (x.map .num) (y.map .num) && rowsUp (y :: r)
def numsUp : List Int → Bool
  | [] => true
  | [_] => true
  | x :: y :: r => decide (x < y) && numsUp (y :: r)
def spAscending : Sp := fun vs H Q _ => ∃ (x : V), vs = [x] ∧ ((∃ ns : List Int, Dat H (.tup (ns.map .num)) x ∧ ns.length ≤ 1000 ∧ numsUp ns = true) ∨ (∃ (rs : List (List Int)) (n : Nat), Dat H (.tup (rs.map fun r => .tup (r.map .num))) x ∧ rs.length ≤ 1000 ∧ (∀ r ∈ rs, r.length = n) ∧ rowsUp rs = true)) ∧ Q (.bl true) H
theorem numsUp_get : ∀ {ns : List Int} {i : Nat} {a b : Int}, numsUp ns = true → ns[i]? = some a → ns[i + 1]? = some b → a < b
  | [], _, _, _, _, h, _ => by simp at h
  | [_], 0, _, _, _, _, g => by simp at g
  | [_], _ + 1, _, _, _, h, _ => by simp at h
  | x :: y :: r, 0, a, b, u, h, g => by
    simp only [numsUp, Bool.and_eq_true, decide_eq_true_eq] at u
    have e1 : x = a := by simpa using h
    have e2 : y = b := by simpa using g
    rw [← e1, ← e2]
    exact u.1
  | x :: y :: r, i + 1, a, b, u, h, g => by
    simp only [numsUp, Bool.and_eq_true] at u
    exact numsUp_get (ns := y :: r) (i := i) u.2 (by simpa using h) (by simpa using g)
theorem rowsUp_get : ∀ {ns : List (List Int)} {i : Nat} {a b : List Int}, rowsUp ns = true → ns[i]? = some a → ns[i + 1]? = some b → dltAll (a.map .num) (b.map .num) = true
  | [], _, _, _, _, h, _ => by simp at h
  | [_], 0, _, _, _, _, g => by simp at g
  | [_], _ + 1, _, _, _, h, _ => by simp at h
  | x :: y :: r, 0, a, b, u, h, g => by
    simp only [rowsUp, Bool.and_eq_true] at u
    have e1 : x = a := by simpa using h
    have e2 : y = b := by simpa using g
    rw [← e1, ← e2]
    exact u.1
  | x :: y :: r, i + 1, a, b, u, h, g => by
    simp only [rowsUp, Bool.and_eq_true] at u
    exact rowsUp_get (ns := y :: r) (i := i) u.2 (by simpa using h) (by simpa using g)
theorem dltAll_asym {a b : List D} (h : dltAll a b = true) : dltAll b a = false := by
  cases c : dltAll b a with
  | false => rfl
  | true =>
    have t := dltAll_trans a b a h c
    rw [dltAll_irr] at t
    cases t
theorem ok_are_ascending (B : Bi mg) (d : Df K mg "are_ascending" "are_ascending" s_are_ascending ["things"]) : Ok P w K mg base 1 "are_ascending" ["things"] spAscending := by
  refine d.ok sc_are_ascending (fun vs H Q E h => ?_) (fun f cdv A outer s H vs Q E hr h => ?_)
  · obtain ⟨x, rfl, _⟩ := h
    rfl
  · obtain ⟨x, rfl, hx, q⟩ := h
    refine ⟨_, (pss_cons (ps_for PassesOwn.never rfl (pi_range2 rfl B.range (pa_cons pe_int (pa_cons (pe_callB cr_lenD (by rfl) B.len (by decide +kernel) (pa_cons (pv 0) pa_nil)) pa_nil))) (pgn 1 sc_are_ascending.nd)
        (pss_one (ps_if (pt_cmpR (op_ge.or (op_geT hr.units8)) (pe_ix ix_dat (pv 0) (pe_op op_sub (pv 1) pe_int) (fun _ _ => rfl)) (pe_ix ix_dat (pv 0) (pv 1) (fun _ _ => rfl)) (nomark _))
          (pss_one (ps_ret pe_bl))
          pss_nil)))
      (pss_one (ps_ret pe_bl))), ?_⟩
    obtain ⟨ds, hd, hlen⟩ : ∃ ds : List D, Dat H (.tup ds) x ∧ ds.length ≤ 1000 := by
      rcases hx with ⟨ns, h1, h2, _⟩ | ⟨rs, n, h1, h2, _⟩
      · exact ⟨_, h1, by simpa using h2⟩
      · exact ⟨_, h1, by simpa using h2⟩
    refine ⟨_, rfl, x, ds, rfl, .inl hd, 1, ds.length, rfl, ⟨by omega, by omega, by omega, by omega⟩, for_range (lo := 1) (n := ((ds.length : Int) - 1).toNat) (fun i σ H' => (∃ y, σ = [some x, y]) ∧ H' = H) ⟨⟨none, rfl⟩, rfl⟩ ?_ ?_⟩
    · rintro i σ H' hi ⟨⟨y, rfl⟩, rfl⟩
      have e1 : (1 : Int) + (i : Int) - 1 = ((i : Nat) : Int) := by omega
      have e2 : (1 : Int) + (i : Int) = ((i + 1 : Nat) : Int) := by omega
      have hi1 : i < ds.length := by omega
      have hi2 : i + 1 < ds.length := by omega
      rcases hx with ⟨ns, h1, h2, up⟩ | ⟨rs, n, h1, h2, hn, up⟩
      · have len : ns.length = ds.length := by
          obtain ⟨a, vs, rfl, ha, hv⟩ := dat_tup.mp h1
          obtain ⟨a', vs', e, ha', hv'⟩ := dat_tup.mp hd
          cases e
          rw [ha] at ha'
          cases ha'
          have l1 := dats_len hv
          have l2 := dats_len hv'
          rw [List.length_map] at l1
          omega
        have g1 : ns[i]? = some ns[i] := List.getElem?_eq_getElem (by omega)
        have g2 : ns[i + 1]? = some ns[i + 1] := List.getElem?_eq_getElem (by omega)
        have lt := numsUp_get up g1 g2
        refine ⟨_, rfl, _, rfl, 1 + (i : Int), 1, rfl, rfl, _, i, _, h1, congrArg V.int e1, by rw [List.getElem?_map, g1]; rfl, fun v hv => ?_⟩
        refine ⟨_, rfl, _, rfl, _, i + 1, _, h1, congrArg V.int e2, by rw [List.getElem?_map, g2]; rfl, fun u hu => ?_⟩
        rw [dat_num] at hv hu
        subst hv
        subst hu
        refine .inl ⟨_, _, rfl, rfl, _, rfl, ?_⟩
        rw [decide_eq_false (by omega)]
        exact iteF ⟨⟨_, rfl⟩, rfl⟩
      · have len : rs.length = ds.length := by
          obtain ⟨a, vs, rfl, ha, hv⟩ := dat_tup.mp h1
          obtain ⟨a', vs', e, ha', hv'⟩ := dat_tup.mp hd
          cases e
          rw [ha] at ha'
          cases ha'
          have l1 := dats_len hv
          have l2 := dats_len hv'
          rw [List.length_map] at l1
          omega
        have g1 : rs[i]? = some rs[i] := List.getElem?_eq_getElem (by omega)
        have g2 : rs[i + 1]? = some rs[i + 1] := List.getElem?_eq_getElem (by omega)
        have lt := rowsUp_get up g1 g2
        refine ⟨_, rfl, _, rfl, 1 + (i : Int), 1, rfl, rfl, _, i, _, h1, congrArg V.int e1, by rw [List.getElem?_map, g1]; rfl, fun v hv => ?_⟩
        refine ⟨_, rfl, _, rfl, _, i + 1, _, h1, congrArg V.int e2, by rw [List.getElem?_map, g2]; rfl, fun u hu => ?_⟩
        refine .inr ⟨_, _, hv, hu, by rw [hn _ (List.mem_of_getElem? g1), hn _ (List.mem_of_getElem? g2)], _, rfl, ?_⟩
        rw [lt]
        exact iteF ⟨⟨_, rfl⟩, rfl⟩
    · rintro σ H' ⟨⟨y, rfl⟩, rfl⟩
      exact q
end
end Fd

/-! The checks of lots, sizes, moves and closings. -/
namespace Fd
open PySem PySem.Spec PyProof.Rows L2
open Enc (enc)
abbrev s_is_lot_below : Stmt := topS 11
theorem sc_is_lot_below : FnScope ["thing", "many", "place"] ["thing", "many"] (defScope s_is_lot_below) := ⟨rfl, rfl, rfl, by decide +kernel, rfl, by decide +kernel, by decide +kernel⟩
abbrev s_check_number : Stmt := topS 12
theorem sc_check_number : FnScope ["thing", "least", "most"] ["thing", "least", "most"] (defScope s_check_number) := ⟨rfl, rfl, rfl, by decide +kernel, rfl, by decide +kernel, by decide +kernel⟩
abbrev s_check_people : Stmt := topS 33
theorem sc_check_people : FnScope ["many"] ["many"] (defScope s_check_people) := ⟨rfl, rfl, rfl, by decide +kernel, rfl, by decide +kernel, by decide +kernel⟩
abbrev s_are_lots : Stmt := topS 34
theorem sc_are_lots : FnScope ["many", "thing", "lot"] ["many", "thing"] (defScope s_are_lots) := ⟨rfl, rfl, rfl, by decide +kernel, rfl, by decide +kernel, by decide +kernel⟩
abbrev s_are_sizes : Stmt := topS 18
theorem sc_are_sizes : FnScope ["thing", "size"] ["thing"] (defScope s_are_sizes) := ⟨rfl, rfl, rfl, by decide +kernel, rfl, by decide +kernel, by decide +kernel⟩
abbrev s_is_move : Stmt := topS 19
theorem sc_is_move : FnScope ["sizes", "many", "thing", "slips", "answers", "marks"] ["sizes", "many", "thing"] (defScope s_is_move) := ⟨rfl, rfl, rfl, by decide +kernel, rfl, by decide +kernel, by decide +kernel⟩
abbrev s_are_moves : Stmt := topS 20
theorem sc_are_moves : FnScope ["sizes", "thing", "row", "move"] ["sizes", "thing"] (defScope s_are_moves) := ⟨rfl, rfl, rfl, by decide +kernel, rfl, by decide +kernel, by decide +kernel⟩
abbrev s_are_closings : Stmt := topS 21
theorem sc_are_closings : FnScope ["sizes", "many", "thing", "row", "mark"] ["sizes", "many", "thing"] (defScope s_are_closings) := ⟨rfl, rfl, rfl, by decide +kernel, rfl, by decide +kernel, by decide +kernel⟩
theorem outs_const {α : Type} (v : α) : ∀ n, outs (fun _ => some v) n = List.replicate n v
  | 0 => rfl
  | n + 1 => by
    rw [outs_some (out := fun _ => some v) (a := v) rfl, outs_const v n, List.replicate_succ']
theorem flags_true (n : Nat) : List.replicate n (V.bl true) = (List.replicate n true).map V.bl := by simp
theorem all_true (n : Nat) : (List.replicate n true).all id = true := by simp
theorem numsUp_of : ∀ {ns : List Nat}, ns.Pairwise (· < ·) → numsUp (ns.map fun n : Nat => ((n : Nat) : Int)) = true
  | [], _ => rfl
  | [_], _ => rfl
  | x :: y :: r, h => by
    have h1 : x < y := (List.pairwise_cons.mp h).1 y List.mem_cons_self
    have h2 := numsUp_of (ns := y :: r) (List.pairwise_cons.mp h).2
    simp only [List.map_cons, numsUp, Bool.and_eq_true, decide_eq_true_eq] at h2 ⊢
    exact ⟨by omega, h2⟩
section
variable {P : Program} {w : World} {K : PySem.W.Frag} {mg : Str → Option Value} {base : Heap}
/-- a lot of places below many -/
def LotOk (many : Nat) (lot : List Nat) : Prop := lot.Pairwise (· < ·) ∧ (∀ p ∈ lot, p < many) ∧ lot.length ≤ 1000
theorem lot_up {H : Hp} {lot : List Nat} {x : V} {n : Nat} (h : Is H lot x) (ok : LotOk n lot) : ∃ ns : List Int, Dat H (.tup (ns.map .num)) x ∧ ns.length ≤ 1000 ∧ numsUp ns = true := by
  refine ⟨lot.map fun n : Nat => ((n : Nat) : Int), ?_, by simpa using ok.2.2, numsUp_of ok.1⟩
  rw [← nums_map]
  exact h
def spLotBelow : Sp := fun vs H Q _ => ∃ (x : V) (lot : List Nat) (many : Nat), vs = [x, .int many] ∧ Is H lot x ∧ LotOk many lot ∧ ∀ H', Same H H' → Q (.bl true) H'
theorem ok_is_lot_below (B : Bi mg) (o_is_within : Ok P w K mg base 2 "is_within" ["thing", "least", "most"] spIsWithin) (o_are_ascending : Ok P w K mg base 1 "are_ascending" ["things"] spAscending)
    (d : Df K mg "is_lot_below" "is_lot_below" s_is_lot_below ["thing", "many"]) : Ok P w K mg base 3 "is_lot_below" ["thing", "many"] spLotBelow := by
  refine d.ok sc_is_lot_below (fun vs H Q E h => ?_) (fun f cdv A outer s H vs Q E hr h => ?_)
  · obtain ⟨x, lot, many, rfl, _⟩ := h
    rfl
  · obtain ⟨x, lot, many, rfl, hx, ok, q⟩ := h
    refine ⟨_, (pss_cons (ps_if (PW.pt (pw_or (pt_not (pt_val (pe_callB (call_isiD .tuple) (by rfl) B.isinstance (by decide +kernel) (pa_cons (pv 0) (pa_cons (pe_bt (T := "tuple") B.tuple) pa_nil))))) (pw_or1 (pt_not (pt_val (pe_callB (cr_all rfl) (by rfl) B.all (by decide +kernel) (pa_cons (pe_lc (own := [("place", 2)]) rfl sc_is_lot_below.nd (pi_tup (pv 0)) (blkOk_by (N := ["thing", "many", "place"]) (sc := defScope s_is_lot_below) (by decide +kernel)) (fun _ _ _ _ _ => (pgn 2 sc_is_lot_below.nd)) (fun _ _ _ _ _ => pts_nil) (fun _ _ _ _ _ => (pe_fn o_is_within hr (pa_cons (pv 2) (pa_cons pe_int (pa_cons (pe_op op_sub (pv 1) pe_int) pa_nil)))))) pa_nil)))))))
        (pss_one (ps_ret pe_bl))
        pss_nil)
      (pss_one (ps_ret (pe_fn o_are_ascending hr (pa_cons (pv 0) pa_nil))))), ?_⟩
    obtain ⟨a, xs, rfl, ha, hxs⟩ := dat_tup.mp hx
    have hlen := dats_len hxs
    rw [List.length_map] at hlen
    refine ⟨_, rfl, enc lot, _, rfl, hx, true, rfl, iteF ⟨_, rfl, a, rfl, ⟨xs, SqT.of ha⟩, fun D hD => lc_val walk_tup (fun _ => some (.bl true)) (by have := ok.2.2; have := sizeLine_eq; omega) hD (fun H' sm => SqT.of (sm _ _ ha)) (fun _ _ _ _ _ => evb_yes) ?_ ?_⟩⟩
    · intro i v H' b hv sm hb Q' q'
      obtain ⟨dd, h1, h2⟩ := dats_getV hxs hv
      rw [List.getElem?_map] at h1
      obtain ⟨p, hp, rfl⟩ := Option.map_eq_some_iff.mp h1
      have hp2 := ok.2.1 p (List.mem_of_getElem? hp)
      have hv' : v = .int p := is_nat.mp h2
      subst hv'
      refine ⟨_, rfl, _, rfl, _, _, rfl, rfl, _, _, _, rfl, ?_⟩
      cases hb
      refine q' _ _ (Same.refl _) ?_
      show V.bl (decide ((0 : Int) ≤ (p : Int) ∧ (p : Int) ≤ (many : Int) - 1)) = .bl true
      rw [decide_eq_true (by omega)]
    · intro H' sm hD'
      rw [outs_const, flags_true] at hD'
      refine ⟨D, _, rfl, SqL.of hD', true, by rw [all_true], iteF ?_⟩
      exact ⟨_, rfl, _, rfl, .inl (lot_up (hx.same sm) ok), q H' sm⟩
end
end Fd

/-! What an office is made of, checked. -/
namespace Fd
open PySem PySem.Spec PyProof.Rows L2
open Enc (enc)
section
variable {P : Program} {w : World} {K : PySem.W.Frag} {mg : Str → Option Value} {base : Heap}
def spCheckNumber : Sp := fun vs H Q _ => ∃ i lo hi : Int, vs = [.int i, .int lo, .int hi] ∧ lo ≤ i ∧ i ≤ hi ∧ Q .non H
theorem ok_check_number (o_is_within : Ok P w K mg base 2 "is_within" ["thing", "least", "most"] spIsWithin) (d : Df K mg "check_number" "check_number" s_check_number ["thing", "least", "most"]) : Ok P w K mg base 3 "check_number" ["thing", "least", "most"] spCheckNumber := by
  refine d.ok sc_check_number (fun vs H Q E h => ?_) (fun f cdv A outer s H vs Q E hr h => ?_)
  · obtain ⟨i, lo, hi, rfl, _⟩ := h
    rfl
  · obtain ⟨i, lo, hi, rfl, h1, h2, q⟩ := h
    refine ⟨_, (pss_one (ps_if (pt_not (pt_val (pe_fn o_is_within hr (pa_cons (pv 0) (pa_cons (pv 1) (pa_cons (pv 2) pa_nil))))))
        (pss_one ps_never)
        pss_nil)), ?_⟩
    refine ⟨_, rfl, _, rfl, _, rfl, _, _, _, rfl, _, rfl, ?_⟩
    rw [decide_eq_true ⟨h1, h2⟩]
    exact iteF q
def spCheckPeople : Sp := fun vs H Q _ => ∃ many : Nat, vs = [.int many] ∧ 1 ≤ many ∧ many ≤ 6 ∧ Q .non H
theorem ok_check_people (C : Cs mg) (o_check_number : Ok P w K mg base 3 "check_number" ["thing", "least", "most"] spCheckNumber) (d : Df K mg "check_people" "check_people" s_check_people ["many"]) : Ok P w K mg base 4 "check_people" ["many"] spCheckPeople := by
  refine d.ok sc_check_people (fun vs H Q E h => ?_) (fun f cdv A outer s H vs Q E hr h => ?_)
  · obtain ⟨many, rfl, _⟩ := h
    rfl
  · obtain ⟨many, rfl, h1, h2, q⟩ := h
    refine ⟨_, (pss_one (ps_expr (pe_fn o_check_number hr (pa_cons (pv 0) (pa_cons pe_int (pa_cons (pe_gi C.MOST_PEOPLE) pa_nil)))))), ?_⟩
    exact ⟨_, rfl, _, _, _, rfl, by omega, by omega, q⟩
def WebOk (many : Nat) (web : List (List Nat)) : Prop := (∀ lot ∈ web, LotOk many lot) ∧ web.length ≤ 1000
def spAreLots : Sp := fun vs H Q _ => ∃ (x : V) (web : List (List Nat)) (many : Nat), vs = [.int many, x] ∧ Is H web x ∧ WebOk many web ∧ ∀ H', Same H H' → Q (.bl true) H'
theorem ok_are_lots (B : Bi mg) (o_is_lot_below : Ok P w K mg base 3 "is_lot_below" ["thing", "many"] spLotBelow) (d : Df K mg "are_lots" "are_lots" s_are_lots ["many", "thing"]) : Ok P w K mg base 4 "are_lots" ["many", "thing"] spAreLots := by
  refine d.ok sc_are_lots (fun vs H Q E h => ?_) (fun f cdv A outer s H vs Q E hr h => ?_)
  · obtain ⟨x, web, many, rfl, _⟩ := h
    rfl
  · obtain ⟨x, web, many, rfl, hx, ok, q⟩ := h
    refine ⟨_, (pss_one (ps_ret (pe_and (pe_callB (call_isiD .tuple) (by rfl) B.isinstance (by decide +kernel) (pa_cons (pv 1) (pa_cons (pe_bt (T := "tuple") B.tuple) pa_nil))) (pe_one (pe_callB (cr_all rfl) (by rfl) B.all (by decide +kernel) (pa_cons (pe_lc (own := [("lot", 2)]) rfl sc_are_lots.nd (pi_tup (pv 1)) (blkOk_by (N := ["many", "thing", "lot"]) (sc := defScope s_are_lots) (by decide +kernel)) (fun _ _ _ _ _ => (pgn 2 sc_are_lots.nd)) (fun _ _ _ _ _ => pts_nil) (fun _ _ _ _ _ => (pe_fn o_is_lot_below hr (pa_cons (pv 2) (pa_cons (pv 0) pa_nil))))) pa_nil)))))), ?_⟩
    obtain ⟨a, xs, rfl, ha, hxs⟩ := dat_tup.mp hx
    have hlen := dats_len hxs
    rw [List.length_map] at hlen
    refine ⟨_, rfl, enc web, _, rfl, hx, true, rfl, iteT ⟨_, rfl, a, rfl, ⟨xs, SqT.of ha⟩, fun D hD => lc_val walk_tup (fun _ => some (.bl true)) (by have := ok.2; have := sizeLine_eq; omega) hD (fun H' sm => SqT.of (sm _ _ ha)) (fun _ _ _ _ _ => evb_yes) ?_ ?_⟩⟩
    · intro i v H' b hv sm hb Q' q'
      obtain ⟨dd, h1, h2⟩ := dats_getV hxs hv
      rw [List.getElem?_map] at h1
      obtain ⟨lot, hl, rfl⟩ := Option.map_eq_some_iff.mp h1
      cases hb
      exact ⟨_, rfl, _, rfl, _, lot, many, rfl, h2.same sm, ok.1 lot (List.mem_of_getElem? hl), fun H2 s2 => q' _ _ s2 rfl⟩
    · intro H' sm hD'
      rw [outs_const, flags_true] at hD'
      refine ⟨D, _, rfl, SqL.of hD', ?_⟩
      rw [all_true]
      exact q H' sm
def spAreSizes : Sp := fun vs H Q _ => ∃ (x : V) (z : Sz), vs = [x] ∧ Is H z x ∧ (1 ≤ z.s ∧ z.s ≤ 4) ∧ (1 ≤ z.a ∧ z.a ≤ 4) ∧ (1 ≤ z.m ∧ z.m ≤ 4) ∧ ∀ H', Same H H' → Q (.bl true) H'
theorem ok_are_sizes (B : Bi mg) (C : Cs mg) (o_is_within : Ok P w K mg base 2 "is_within" ["thing", "least", "most"] spIsWithin) (o_is_triple : Ok P w K mg base 1 "is_triple" ["thing"] spIsTriple) (d : Df K mg "are_sizes" "are_sizes" s_are_sizes ["thing"]) : Ok P w K mg base 3 "are_sizes" ["thing"] spAreSizes := by
  refine d.ok sc_are_sizes (fun vs H Q E h => ?_) (fun f cdv A outer s H vs Q E hr h => ?_)
  · obtain ⟨x, z, rfl, _⟩ := h
    rfl
  · obtain ⟨x, z, rfl, hx, b1, b2, b3, q⟩ := h
    refine ⟨_, (pss_one (ps_ret (pe_and (pe_fn o_is_triple hr (pa_cons (pv 0) pa_nil)) (pe_one (pe_callB (cr_all rfl) (by rfl) B.all (by decide +kernel) (pa_cons (pe_lc (own := [("size", 1)]) rfl sc_are_sizes.nd (pi_tup (pv 0)) (blkOk_by (N := ["thing", "size"]) (sc := defScope s_are_sizes) (by decide +kernel)) (fun _ _ _ _ _ => (pgn 1 sc_are_sizes.nd)) (fun _ _ _ _ _ => pts_nil) (fun _ _ _ _ _ => (pe_fn o_is_within hr (pa_cons (pv 1) (pa_cons pe_int (pa_cons (pe_gi C.MOST_SIZE) pa_nil)))))) pa_nil)))))), ?_⟩
    obtain ⟨a, xs, rfl, ha, hxs⟩ := dat_tup.mp hx
    have hlen := dats_len hxs
    simp only [List.length_cons, List.length_nil] at hlen
    refine ⟨_, rfl, _, _, rfl, hx, true, rfl, iteT ⟨_, rfl, a, rfl, ⟨xs, SqT.of ha⟩, fun D hD => lc_val walk_tup (fun _ => some (.bl true)) (by have := sizeLine_eq; omega) hD (fun H' sm => SqT.of (sm _ _ ha)) (fun _ _ _ _ _ => evb_yes) ?_ ?_⟩⟩
    · intro i v H' b hv sm hb Q' q'
      obtain ⟨dd, h1, h2⟩ := dats_getV hxs hv
      cases hb
      obtain ⟨n, hn, rfl⟩ : ∃ n : Nat, (1 ≤ n ∧ n ≤ 4) ∧ v = .int n := by
        match i, h1 with
        | 0, h1 =>
          cases h1
          exact ⟨z.s, b1, dat_num.mp h2⟩
        | 1, h1 =>
          cases h1
          exact ⟨z.a, b2, dat_num.mp h2⟩
        | 2, h1 =>
          cases h1
          exact ⟨z.m, b3, dat_num.mp h2⟩
        | i + 3, h1 => simp at h1
      refine ⟨_, rfl, _, _, _, rfl, q' _ _ (Same.refl _) ?_⟩
      show V.bl (decide ((1 : Int) ≤ (n : Int) ∧ (n : Int) ≤ 4)) = .bl true
      rw [decide_eq_true (by omega)]
    · intro H' sm hD'
      rw [outs_const, flags_true] at hD'
      refine ⟨D, _, rfl, SqL.of hD', ?_⟩
      rw [all_true]
      exact q H' sm
def MvOk (z : Sz) (n : Nat) (m : Mv) : Prop := m.s < z.s ∧ m.a < z.a ∧ m.m < z.m ∧ m.g < n
def spIsMove : Sp := fun vs H Q _ => ∃ (x y : V) (z : Sz) (n : Nat) (m : Mv), vs = [x, .int n, y] ∧ Is H z x ∧ Is H m y ∧ MvOk z n m ∧ Q (.bl true) H
theorem ok_is_move (B : Bi mg) (o_is_within : Ok P w K mg base 2 "is_within" ["thing", "least", "most"] spIsWithin) (d : Df K mg "is_move" "is_move" s_is_move ["sizes", "many", "thing"]) : Ok P w K mg base 3 "is_move" ["sizes", "many", "thing"] spIsMove := by
  refine d.ok sc_is_move (fun vs H Q E h => ?_) (fun f cdv A outer s H vs Q E hr h => ?_)
  · obtain ⟨x, y, z, n, m, rfl, _⟩ := h
    rfl
  · obtain ⟨x, y, z, n, m, rfl, hx, hy, ok, q⟩ := h
    refine ⟨_, (pss_cons (ps_if (PW.pt (pw_or (pt_not (pt_val (pe_callB (call_isiD .tuple) (by rfl) B.isinstance (by decide +kernel) (pa_cons (pv 2) (pa_cons (pe_bt (T := "tuple") B.tuple) pa_nil))))) (pw_or1 (pt_cmpR op_ne (pe_callB cr_lenD (by rfl) B.len (by decide +kernel) (pa_cons (pv 2) pa_nil)) pe_int (nomark _)))))
        (pss_one (ps_ret pe_bl))
        pss_nil)
      (pss_cons (ps_asg (pv 0) (pg_tupD rfl (pgs_cons (pgn 3 sc_is_move.nd) (pgs_cons (pgn 4 sc_is_move.nd) (pgs_cons (pgn 5 sc_is_move.nd) pgs_nil)))))
      (pss_cons (ps_if (PW.pt (pw_or (pt_not (pt_val (pe_fn o_is_within hr (pa_cons (pe_ix ix_dat (pv 2) pe_int (fun _ _ => rfl)) (pa_cons pe_int (pa_cons (pe_op op_sub (pv 3) pe_int) pa_nil)))))) (pw_or1 (pt_not (pt_val (pe_fn o_is_within hr (pa_cons (pe_ix ix_dat (pv 2) pe_int (fun _ _ => rfl)) (pa_cons pe_int (pa_cons (pe_op op_sub (pv 4) pe_int) pa_nil)))))))))
        (pss_one (ps_ret pe_bl))
        pss_nil)
      (pss_one (ps_ret (pe_and (pe_fn o_is_within hr (pa_cons (pe_ix ix_dat (pv 2) pe_int (fun _ _ => rfl)) (pa_cons pe_int (pa_cons (pe_op op_sub (pv 5) pe_int) pa_nil)))) (pe_one (pe_fn o_is_within hr (pa_cons (pe_ix ix_dat (pv 2) pe_int (fun _ _ => rfl)) (pa_cons pe_int (pa_cons (pe_op op_sub (pv 1) pe_int) pa_nil))))))))))), ?_⟩
    obtain ⟨o1, o2, o3, o4⟩ := ok
    refine ⟨_, rfl, enc m, _, rfl, hy, true, rfl, iteF ⟨_, rfl, _, _, rfl, .inl hy, rfl, _, rfl, iteF ?_⟩⟩
    refine ⟨_, rfl, _, hx, rfl, fun xs hxs => ?_⟩
    obtain ⟨x1, r1, rfl, d1, g1⟩ := dats_of_cons hxs
    obtain ⟨x2, r2, rfl, d2, g2⟩ := dats_of_cons g1
    obtain ⟨x3, r3, rfl, d3, g3⟩ := dats_of_cons g2
    rw [dat_num] at d1 d2 d3
    subst d1 d2 d3
    have g4 := dats_of_nil g3
    subst g4
    refine ⟨_, _, rfl, _, _, rfl, _, _, rfl, rfl, ?_⟩
    refine ⟨_, rfl, _, 0, _, hy, rfl, rfl, fun v hv => ?_⟩
    rw [dat_num] at hv
    subst hv
    refine ⟨_, rfl, _, _, rfl, rfl, _, _, _, rfl, _, rfl, ?_⟩
    rw [decide_eq_true ⟨by omega, by show ((m.s : Nat) : Int) ≤ ((z.s : Nat) : Int) - 1; omega⟩]
    refine iteF ?_
    refine ⟨_, rfl, _, 1, _, hy, rfl, rfl, fun v hv => ?_⟩
    rw [dat_num] at hv
    subst hv
    refine ⟨_, rfl, _, _, rfl, rfl, _, _, _, rfl, _, rfl, ?_⟩
    rw [decide_eq_true ⟨by omega, by show ((m.a : Nat) : Int) ≤ ((z.a : Nat) : Int) - 1; omega⟩]
    refine iteF ?_
    refine ⟨_, rfl, _, 2, _, hy, rfl, rfl, fun v hv => ?_⟩
    rw [dat_num] at hv
    subst hv
    refine ⟨_, rfl, _, _, rfl, rfl, _, _, _, rfl, _, rfl, ?_⟩
    rw [decide_eq_true ⟨by omega, by show ((m.m : Nat) : Int) ≤ ((z.m : Nat) : Int) - 1; omega⟩]
    refine iteT ?_
    refine ⟨_, rfl, _, 3, _, hy, rfl, rfl, fun v hv => ?_⟩
    rw [dat_num] at hv
    subst hv
    refine ⟨_, rfl, _, _, rfl, rfl, _, _, _, rfl, ?_⟩
    rw [decide_eq_true ⟨by omega, by show ((m.g : Nat) : Int) ≤ ((n : Nat) : Int) - 1; omega⟩]
    exact q
end
end Fd

/-! Moves and closings, checked. -/
namespace Fd
open PySem PySem.Spec PyProof.Rows L2
open Enc (enc)
section
variable {P : Program} {w : World} {K : PySem.W.Frag} {mg : Str → Option Value} {base : Heap}
def Mv.ints (m : Mv) : List Int := [m.s, m.a, m.m, m.g]
theorem enc_row (row : List Mv) : row.map enc = (row.map Mv.ints).map fun r => NestedKey.tup (r.map .num) := by
  rw [List.map_map]
  rfl
def RowOk (z : Sz) (n : Nat) (row : List Mv) : Prop := (∀ m ∈ row, MvOk z n m) ∧ rowsUp (row.map Mv.ints) = true ∧ row.length ≤ 6
def MovesOk (z : Sz) (mv : List (List Mv)) : Prop := (1 ≤ mv.length ∧ mv.length ≤ 6) ∧ ∀ row ∈ mv, RowOk z mv.length row
def spAreMoves : Sp := fun vs H Q _ => ∃ (x y : V) (z : Sz) (mv : List (List Mv)), vs = [x, y] ∧ Is H z x ∧ Is H mv y ∧ MovesOk z mv ∧ ∀ H', Same H H' → Q (.bl true) H'
theorem ok_are_moves (B : Bi mg) (C : Cs mg) (o_is_move : Ok P w K mg base 3 "is_move" ["sizes", "many", "thing"] spIsMove) (o_are_ascending : Ok P w K mg base 1 "are_ascending" ["things"] spAscending)
    (d : Df K mg "are_moves" "are_moves" s_are_moves ["sizes", "thing"]) : Ok P w K mg base 4 "are_moves" ["sizes", "thing"] spAreMoves := by
  refine d.ok sc_are_moves (fun vs H Q E h => ?_) (fun f cdv A outer s H vs Q E hr h => ?_)
  · obtain ⟨x, y, z, mv, rfl, _⟩ := h
    rfl
  · obtain ⟨x, y, z, mv, rfl, hx, hy, ⟨⟨n1, n2⟩, ok⟩, q⟩ := h
    refine ⟨_, (pss_cons (ps_if (PW.pt (pw_or (pt_not (pt_val (pe_callB (call_isiD .tuple) (by rfl) B.isinstance (by decide +kernel) (pa_cons (pv 1) (pa_cons (pe_bt (T := "tuple") B.tuple) pa_nil))))) (pw_or1 (pt_not (pt_chain op_le op_le pe_int (pe_callB cr_lenD (by rfl) B.len (by decide +kernel) (pa_cons (pv 1) pa_nil)) (pe_gi C.MOST_STANDINGS))))))
        (pss_one (ps_ret pe_bl))
        pss_nil)
      (pss_cons (ps_for PassesOwn.never rfl (pi_tup (pv 1)) (pgn 2 sc_are_moves.nd)
        (pss_cons (ps_if (PW.pt (pw_or (pt_not (pt_val (pe_callB (call_isiD .tuple) (by rfl) B.isinstance (by decide +kernel) (pa_cons (pv 2) (pa_cons (pe_bt (T := "tuple") B.tuple) pa_nil))))) (pw_or1 (pt_not (pt_val (pe_callB (cr_all rfl) (by rfl) B.all (by decide +kernel) (pa_cons (pe_lc (own := [("move", 3)]) rfl sc_are_moves.nd (pi_tup (pv 2)) (blkOk_by (N := ["sizes", "thing", "row", "move"]) (sc := defScope s_are_moves) (by decide +kernel)) (fun _ _ _ _ _ => (pgn 3 sc_are_moves.nd)) (fun _ _ _ _ _ => pts_nil) (fun _ _ _ _ _ => (pe_fn o_is_move hr (pa_cons (pv 0) (pa_cons (pe_callB (cr_lenDK K rfl) (by rfl) B.len (by decide +kernel) (pa_cons (pv 1) pa_nil)) (pa_cons (pv 3) pa_nil)))))) pa_nil)))))))
          (pss_one (ps_ret pe_bl))
          pss_nil)
        (pss_one (ps_if (pt_not (pt_val (pe_fn o_are_ascending hr (pa_cons (pv 2) pa_nil))))
          (pss_one (ps_ret pe_bl))
          pss_nil))))
      (pss_one (ps_ret pe_bl)))), ?_⟩
    obtain ⟨a, xs, rfl, ha, hxs⟩ := dat_tup.mp hy
    have hlen := dats_len hxs
    rw [List.length_map] at hlen
    have e1 : decide ((1 : Int) ≤ ((mv.map enc).length : Nat)) = true := decide_eq_true (by rw [List.length_map]; omega)
    have e2 : decide (((mv.map enc).length : Int) ≤ 20) = true := decide_eq_true (by rw [List.length_map]; omega)
    refine ⟨_, rfl, enc mv, _, rfl, hy, true, rfl, iteF ?_⟩
    refine ⟨_, rfl, _, _, rfl, .inl hy, _, _, rfl, rfl, _, rfl, ?_⟩
    rw [e1]
    refine iteT ⟨_, _, rfl, rfl, _, rfl, ?_⟩
    rw [e2]
    refine iteF ?_
    refine ⟨_, rfl, a, rfl, ⟨xs, SqT.of ha⟩, for_tup (xs := xs) (fun i σ H' => (∃ u, σ = [some x, some (.ref a), u, none]) ∧ Same H H') ⟨⟨none, rfl⟩, Same.refl H⟩ (fun i σ H' _ p => SqT.of (p.2 _ _ ha)) ?_ ?_⟩
    · rintro i v σ H' hv ⟨⟨u, rfl⟩, sm⟩
      obtain ⟨dd, h1, h2⟩ := dats_getV hxs hv
      rw [List.getElem?_map] at h1
      obtain ⟨row, hrow, rfl⟩ := Option.map_eq_some_iff.mp h1
      obtain ⟨r1, r2, r3⟩ := ok row (List.mem_of_getElem? hrow)
      have hrw : Is H' row v := h2.same sm
      obtain ⟨b, ys, rfl, hb, hys⟩ := dat_tup.mp hrw
      have hl2 := dats_len hys
      rw [List.length_map] at hl2
      refine ⟨_, rfl, enc row, _, rfl, hrw, true, rfl, iteF ⟨_, rfl, b, rfl, ⟨ys, SqT.of hb⟩, fun D hD => lc_val walk_tup (fun _ => some (.bl true)) (by have := sizeLine_eq; omega) hD (fun H' sm => SqT.of (sm _ _ hb)) (fun _ _ _ _ _ => evb_yes) ?_ ?_⟩⟩
      · intro j v2 H2 b2 hv2 sm2 hb2 Q' q'
        obtain ⟨dd, h3, h4⟩ := dats_getV hys hv2
        rw [List.getElem?_map] at h3
        obtain ⟨m, hm, rfl⟩ := Option.map_eq_some_iff.mp h3
        cases hb2
        exact ⟨_, rfl, _, rfl, _, _, rfl, .inl ((hy.same sm).same sm2), _, rfl, _, _, z, mv.length, m, by rw [List.length_map]; rfl, (hx.same sm).same sm2, h4.same sm2, r1 m (List.mem_of_getElem? hm), q' _ _ (Same.refl _) rfl⟩
      · intro H2 sm2 hD'
        rw [outs_const, flags_true] at hD'
        refine ⟨D, _, rfl, SqL.of hD', true, by rw [all_true], iteF ?_⟩
        refine ⟨_, rfl, _, rfl, .inr ⟨row.map Mv.ints, 4, ?_, by simp; omega, fun r hr => ?_, r2⟩, true, rfl, iteF ⟨⟨_, rfl⟩, sm.trans sm2⟩⟩
        · rw [← enc_row]
          exact hrw.same sm2
        · obtain ⟨m, _, rfl⟩ := List.mem_map.mp hr
          rfl
    · rintro σ H' ⟨⟨u, rfl⟩, sm⟩
      exact q H' sm
def ClosOk (z : Sz) (cl : List (List Nat)) : Prop := ∀ row ∈ cl, row.Pairwise (· < ·) ∧ (∀ l ∈ row, l < z.m) ∧ row.length ≤ 2
def spAreClosings : Sp := fun vs H Q _ => ∃ (x y : V) (z : Sz) (cl : List (List Nat)), vs = [x, .int cl.length, y] ∧ Is H z x ∧ Is H cl y ∧ ClosOk z cl ∧ cl.length ≤ 6 ∧ ∀ H', Same H H' → Q (.bl true) H'
theorem ok_are_closings (B : Bi mg) (o_is_within : Ok P w K mg base 2 "is_within" ["thing", "least", "most"] spIsWithin) (o_are_ascending : Ok P w K mg base 1 "are_ascending" ["things"] spAscending)
    (d : Df K mg "are_closings" "are_closings" s_are_closings ["sizes", "many", "thing"]) : Ok P w K mg base 3 "are_closings" ["sizes", "many", "thing"] spAreClosings := by
  refine d.ok sc_are_closings (fun vs H Q E h => ?_) (fun f cdv A outer s H vs Q E hr h => ?_)
  · obtain ⟨x, y, z, cl, rfl, _⟩ := h
    rfl
  · obtain ⟨x, y, z, cl, rfl, hx, hy, ok, n6, q⟩ := h
    refine ⟨_, (pss_cons (ps_if (PW.pt (pw_or (pt_not (pt_val (pe_callB (call_isiD .tuple) (by rfl) B.isinstance (by decide +kernel) (pa_cons (pv 2) (pa_cons (pe_bt (T := "tuple") B.tuple) pa_nil))))) (pw_or1 (pt_cmpR op_ne (pe_callB cr_lenD (by rfl) B.len (by decide +kernel) (pa_cons (pv 2) pa_nil)) (pv 1) (nomark _)))))
        (pss_one (ps_ret pe_bl))
        pss_nil)
      (pss_cons (ps_for PassesOwn.never rfl (pi_tup (pv 2)) (pgn 3 sc_are_closings.nd)
        (pss_cons (ps_if (PW.pt (pw_or (pt_not (pt_val (pe_callB (call_isiD .tuple) (by rfl) B.isinstance (by decide +kernel) (pa_cons (pv 3) (pa_cons (pe_bt (T := "tuple") B.tuple) pa_nil))))) (pw_or1 (pt_not (pt_val (pe_callB (cr_all rfl) (by rfl) B.all (by decide +kernel) (pa_cons (pe_lc (own := [("mark", 4)]) rfl sc_are_closings.nd (pi_tup (pv 3)) (blkOk_by (N := ["sizes", "many", "thing", "row", "mark"]) (sc := defScope s_are_closings) (by decide +kernel)) (fun _ _ _ _ _ => (pgn 4 sc_are_closings.nd)) (fun _ _ _ _ _ => pts_nil) (fun _ _ _ _ _ => (pe_fn o_is_within hr (pa_cons (pv 4) (pa_cons pe_int (pa_cons (pe_op op_sub (pe_ix ix_dat (pv 0) pe_int (fun _ _ => rfl)) pe_int) pa_nil)))))) pa_nil)))))))
          (pss_one (ps_ret pe_bl))
          pss_nil)
        (pss_one (ps_if (pt_not (pt_val (pe_fn o_are_ascending hr (pa_cons (pv 3) pa_nil))))
          (pss_one (ps_ret pe_bl))
          pss_nil))))
      (pss_one (ps_ret pe_bl)))), ?_⟩
    obtain ⟨a, xs, rfl, ha, hxs⟩ := dat_tup.mp hy
    have hlen := dats_len hxs
    rw [List.length_map] at hlen
    refine ⟨_, rfl, enc cl, _, rfl, hy, true, rfl, iteF ?_⟩
    refine ⟨_, rfl, _, _, rfl, .inl hy, _, rfl, rfl, _, rfl, ?_⟩
    have e1 : (!decide (V.int ((cl.map enc).length : Nat) = V.int (cl.length : Nat))) = false := by simp
    rw [e1]
    refine iteF ?_
    refine ⟨_, rfl, a, rfl, ⟨xs, SqT.of ha⟩, for_tup (xs := xs) (fun i σ H' => (∃ u, σ = [some x, some (.int cl.length), some (.ref a), u, none]) ∧ Same H H') ⟨⟨none, rfl⟩, Same.refl H⟩ (fun i σ H' _ p => SqT.of (p.2 _ _ ha)) ?_ ?_⟩
    · rintro i v σ H' hv ⟨⟨u, rfl⟩, sm⟩
      obtain ⟨dd, h1, h2⟩ := dats_getV hxs hv
      rw [List.getElem?_map] at h1
      obtain ⟨row, hrow, rfl⟩ := Option.map_eq_some_iff.mp h1
      obtain ⟨r1, r2, r3⟩ := ok row (List.mem_of_getElem? hrow)
      have hrw : Is H' row v := h2.same sm
      obtain ⟨b, ys, rfl, hb, hys⟩ := dat_tup.mp hrw
      have hl2 := dats_len hys
      rw [List.length_map] at hl2
      refine ⟨_, rfl, enc row, _, rfl, hrw, true, rfl, iteF ⟨_, rfl, b, rfl, ⟨ys, SqT.of hb⟩, fun D hD => lc_val walk_tup (fun _ => some (.bl true)) (by have := sizeLine_eq; omega) hD (fun H' sm => SqT.of (sm _ _ hb)) (fun _ _ _ _ _ => evb_yes) ?_ ?_⟩⟩
      · intro j v2 H2 b2 hv2 sm2 hb2 Q' q'
        obtain ⟨dd, h3, h4⟩ := dats_getV hys hv2
        rw [List.getElem?_map] at h3
        obtain ⟨l, hl, rfl⟩ := Option.map_eq_some_iff.mp h3
        have hlt := r2 l (List.mem_of_getElem? hl)
        cases hb2
        have h5 : v2 = .int l := is_nat.mp h4
        subst h5
        refine ⟨_, rfl, _, rfl, _, 2, _, (hx.same sm).same sm2, rfl, rfl, fun v hv => ?_⟩
        rw [dat_num] at hv
        subst hv
        refine ⟨_, _, rfl, rfl, _, _, _, rfl, q' _ _ (Same.refl _) ?_⟩
        show V.bl (decide ((0 : Int) ≤ (l : Int) ∧ (l : Int) ≤ (z.m : Int) - 1)) = .bl true
        rw [decide_eq_true (by omega)]
      · intro H2 sm2 hD'
        rw [outs_const, flags_true] at hD'
        refine ⟨D, _, rfl, SqL.of hD', true, by rw [all_true], iteF ?_⟩
        refine ⟨_, rfl, _, rfl, .inl ⟨row.map fun n : Nat => ((n : Nat) : Int), ?_, by simp; omega, numsUp_of r1⟩, true, rfl, iteF ⟨⟨_, rfl⟩, sm.trans sm2⟩⟩
        rw [← nums_map]
        exact hrw.same sm2
    · rintro σ H' ⟨⟨u, rfl⟩, sm⟩
      exact q H' sm
end
end Fd

/-! An office is made. -/
namespace Fd
open PySem PySem.Spec PyProof.Rows L2
open Enc (enc)
abbrev s_keep : Stmt := inClass (topS 22) 1
theorem sc_keep : FnScope ["self", "sizes", "moves", "closings", "row", "goals", "slip", "answer", "mark", "goal"] ["self", "sizes", "moves", "closings"] (defScope s_keep) := ⟨rfl, rfl, rfl, by decide +kernel, rfl, by decide +kernel, by decide +kernel⟩
abbrev s_init : Stmt := inClass (topS 22) 0
theorem sc_init : FnScope ["self", "sizes", "moves", "closings"] ["self", "sizes", "moves", "closings"] (defScope s_init) := ⟨rfl, rfl, rfl, by decide +kernel, rfl, by decide +kernel, by decide +kernel⟩
abbrev s__law_made : Stmt := topS 55
theorem sc__law_made : FnScope ["_law_parts_here"] ["_law_parts_here"] (defScope s__law_made) := ⟨rfl, rfl, rfl, by decide +kernel, rfl, by decide +kernel, by decide +kernel⟩
theorem At1.sameOf {H1 H H' : Hp} {l : Addr} (s : Same H1 H) (a : At1 l H H') (n : H1 l = none) : Same H1 H' := fun b o e => by
  have hb : b ≠ l := fun z => by
    rw [z, n] at e
    cases e
  rw [a b hb]
  exact s b o e
theorem Lsd.some {H : Hp} {p : Addr} {ds : List D} (h : Lsd H p ds) : H p ≠ none := by
  obtain ⟨vs, e, _⟩ := h
  rw [e]
  intro z
  cases z
theorem DN.some {P : Program} {w : World} {H : Hp} {p : Addr} {kvs : List (D × V)} (h : DN P w H p kvs) : H p ≠ none := by
  obtain ⟨xs, e, _⟩ := h
  rw [e]
  intro z
  cases z
/-- where a step leads in a row of moves -/
def goalsAt (row : List Mv) (st : Stp) : List Nat := (row.filter fun m => m.stp = st).map (·.g)
theorem goalsAt_snoc (row : List Mv) (m : Mv) (st : Stp) : goalsAt (row ++ [m]) st = goalsAt row st ++ (if m.stp = st then [m.g] else []) := by
  unfold goalsAt
  rw [List.filter_append, List.map_append]
  by_cases h : m.stp = st
  · simp [h]
  · simp [h]
/-- at d the goals of a row -/
def GoalD (P : Program) (w : World) (H : Hp) (d : Addr) (row : List Mv) : Prop := ∃ kvs, DN P w H d kvs ∧ kvs.length ≤ row.length ∧
  ∀ st : Stp, (valV kvs (enc st) = none ∧ goalsAt row st = []) ∨ ∃ l, valV kvs (enc st) = some (.ref l) ∧ Ls H l (goalsAt row st)
/-- .. while they are filled: the lists are new since H1, and apart -/
def GoalF (P : Program) (w : World) (H1 H : Hp) (d : Addr) (row : List Mv) (i : Nat) : Prop := ∃ kvs, DN P w H d kvs ∧ kvs.length ≤ i ∧
  (∀ st : Stp, (valV kvs (enc st) = none ∧ goalsAt (row.take i) st = []) ∨ ∃ l, valV kvs (enc st) = some (.ref l) ∧ H1 l = none ∧ l ≠ d ∧ Ls H l (goalsAt (row.take i) st)) ∧
  ∀ (st st' : Stp) (l : Addr), valV kvs (enc st) = some (.ref l) → valV kvs (enc st') = some (.ref l) → st = st'
theorem GoalD.same {P : Program} {w : World} {H H' : Hp} {d : Addr} {row : List Mv} (h : GoalD P w H d row) (s : Same H H') : GoalD P w H' d row := by
  obtain ⟨kvs, h1, h2, h3⟩ := h
  refine ⟨kvs, h1.same s, h2, fun st => ?_⟩
  rcases h3 st with h | ⟨l, a, b⟩
  · exact .inl h
  · exact .inr ⟨l, a, b.same s⟩
/-- an office stands at x -/
structure Off (P : Program) (w : World) (C : Addr) (H : Hp) (x : Addr) (z : Sz) (mv : List (List Mv)) (cl : List (List Nat)) : Prop where
  ex : ∃ (dx : Addr) (fs : List (Str × V)) (v1 v2 v3 : V) (lk : Addr) (refs : List V), H x = some (.ins C dx fs) ∧ fs.lookup ("sizes" : Str) = some v1 ∧ fs.lookup ("moves" : Str) = some v2 ∧ fs.lookup ("closings" : Str) = some v3 ∧ fs.lookup ("kept_goals" : Str) = some (V.ref lk) ∧
    Is H z v1 ∧ Is H mv v2 ∧ Is H cl v3 ∧ H lk = some (.lst refs) ∧ refs.length = mv.length ∧ ∀ (j : Nat) (row : List Mv), mv[j]? = some row → ∃ d : Addr, refs[j]? = some (V.ref d) ∧ GoalD P w H d row
theorem Off.same {P : Program} {w : World} {C : Addr} {H H' : Hp} {x : Addr} {z : Sz} {mv : List (List Mv)} {cl : List (List Nat)} (h : Off P w C H x z mv cl) (s : Same H H') : Off P w C H' x z mv cl := by
  obtain ⟨dx, fs, v1, v2, v3, lk, refs, h1, h2, h3, h4, h5, h6, h7, h8, h9, h10, h11⟩ := h.ex
  refine ⟨dx, fs, v1, v2, v3, lk, refs, s _ _ h1, h2, h3, h4, h5, h6.same s, h7.same s, h8.same s, s _ _ h9, h10, fun j row hj => ?_⟩
  obtain ⟨d, a, b⟩ := h11 j row hj
  exact ⟨d, a, b.same s⟩
structure OkM (P : Program) (w : World) (K : PySem.W.Frag) (mg : Str → Option Value) (base : Heap) (k : Nat) (C : Addr) (m : Str) (ps : List Str) (sp : Sp) : Prop where
  ex : ∃ f fd, FnOk P w K mg base CX0 k f fd ps sp ∧ Meth K C m f ∧ Binds K fd ps []
structure OkI (P : Program) (w : World) (K : PySem.W.Frag) (mg : Str → Option Value) (base : Heap) (k : Nat) (C : Addr) (ps : List Str) (sp : Sp) : Prop where
  ex : ∃ f fd, FnOk P w K mg base CX0 k f fd ps sp ∧ Mk K C f ∧ Binds K fd ps []
structure DfM (K : PySem.W.Frag) (C : Addr) (x qual : Str) (st : Stmt) (ps : List Str) : Prop where
  ex : ∃ f fd, Fun K x qual st f fd ∧ Meth K C x f ∧ Binds K fd ps []
structure DfI (K : PySem.W.Frag) (C : Addr) (x qual : Str) (st : Stmt) (ps : List Str) : Prop where
  ex : ∃ f fd, Fun K x qual st f fd ∧ Mk K C f ∧ Binds K fd ps []
/-- the class Office, as the top leaves it -/
structure TxtO (K : PySem.W.Frag) (mg : Str → Option Value) (C : Addr) : Prop where
  cl : Cls K C
  nS : NoAttr K C "sizes"
  nM : NoAttr K C "moves"
  nC : NoAttr K C "closings"
  nK : NoAttr K C "kept_goals"
  mgC : mg "Office" = some (.ref C)
def hid (H : Hp) (p : Addr) : Hp := fun a => if a = p then none else H a
theorem hid_ne {H : Hp} {p a : Addr} (h : a ≠ p) : hid H p a = H a := if_neg h
theorem hid_same {H : Hp} {p : Addr} : Same (hid H p) H := fun b o e => by
  unfold hid at e
  split at e
  · cases e
  · exact e
theorem hid_tx {H : Hp} {p : Addr} (n : ∀ xs, H p ≠ some (.tup xs)) : Tx H (hid H p) := fun a xs e => by
  have ha : a ≠ p := fun z => n xs (z ▸ e)
  rw [hid_ne ha]
  exact e
/-- what stands in H: x, the tuples, and what H0 had not -/
def Nw (H0 : Hp) (x : Addr) (H : Hp) : Hp := fun a => if a = x then H a else match H0 a with
  | none => H a
  | some _ => match H a with
    | some (.tup xs) => some (.tup xs)
    | _ => none
theorem nw_some {H0 H : Hp} {x a : Addr} {o : HO} : Nw H0 x H a = some o ↔ H a = some o ∧ (a = x ∨ H0 a = none ∨ ∃ xs, o = .tup xs) := by
  unfold Nw
  by_cases h : a = x
  · rw [if_pos h]
    exact ⟨fun e => ⟨e, .inl h⟩, fun e => e.1⟩
  · rw [if_neg h]
    cases h0 : H0 a with
    | none => exact ⟨fun e => ⟨e, .inr (.inl rfl)⟩, fun e => e.1⟩
    | some u =>
      constructor
      · intro e
        dsimp only at e
        split at e
        · rename_i xs hx
          cases e
          exact ⟨hx, .inr (.inr ⟨xs, rfl⟩)⟩
        · cases e
      · rintro ⟨e, h1 | h1 | ⟨xs, rfl⟩⟩
        · exact (h h1).elim
        · cases h1
        · rw [e]
theorem nw_new {H0 H : Hp} {x a : Addr} (h : H0 a = none) : Nw H0 x H a = H a := by
  cases e : H a with
  | none =>
    cases e2 : Nw H0 x H a with
    | none => rfl
    | some o =>
      have := (nw_some.mp e2).1
      rw [e] at this
      cases this
  | some o => exact nw_some.mpr ⟨e, .inr (.inl h)⟩
theorem nw_tx {H0 H : Hp} {x : Addr} : Tx H (Nw H0 x H) := fun a xs e => nw_some.mpr ⟨e, .inr (.inr ⟨xs, rfl⟩)⟩
theorem nw_mono {H0 H H' : Hp} {x : Addr} (s : Same H H') : Same (Nw H0 x H) (Nw H0 x H') := fun a o e => by
  obtain ⟨h1, h2⟩ := nw_some.mp e
  exact nw_some.mpr ⟨s _ _ h1, h2⟩
theorem nw_back {H0 H1 H : Hp} {x : Addr} (f : ∀ a, H1 a = none → H0 a = none) : Same (Nw H1 x H) (Nw H0 x H) := fun a o e => nw_some.mpr ⟨(nw_some.mp e).1, (nw_some.mp e).2.imp id (Or.imp (f a) id)⟩
theorem nw_same {H0 H : Hp} {x : Addr} : Same (Nw H0 x H) H := fun a o e => (nw_some.mp e).1
theorem GoalF.done' {P : Program} {w : World} {H0 H1 H : Hp} {d lk x : Addr} {row : List Mv} (h : GoalF P w H1 H d row row.length) (hd : d ≠ lk) (hl : H1 lk ≠ none) (n : ∀ xs, H lk ≠ some (.tup xs)) (nd : H1 d = none) (n0 : ∀ a, H1 a = none → H0 a = none) : GoalD P w (Nw H0 x (hid H lk)) d row := by
  obtain ⟨kvs, a, b, c, _⟩ := h
  rw [List.take_length] at c
  have t : Tx H (Nw H0 x (hid H lk)) := (hid_tx n).trans nw_tx
  refine ⟨kvs, a.keep ((nw_new (n0 d nd)).trans (hid_ne hd)) t, b, fun st => ?_⟩
  rcases c st with h | ⟨l, q1, q2, q3, q4⟩
  · exact .inl h
  · have hl2 : l ≠ lk := fun z => hl (z ▸ q2)
    exact .inr ⟨l, q1, q4.keep ((nw_new (n0 l q2)).trans (hid_ne hl2)) t⟩
theorem GoalF.done {P : Program} {w : World} {H1 H : Hp} {d lk : Addr} {row : List Mv} (h : GoalF P w H1 H d row row.length) (hd : d ≠ lk) (hl : H1 lk ≠ none) (n : ∀ xs, H lk ≠ some (.tup xs)) : GoalD P w (hid H lk) d row := by
  obtain ⟨kvs, a, b, c, _⟩ := h
  rw [List.take_length] at c
  refine ⟨kvs, a.keep (hid_ne hd) (hid_tx n), b, fun st => ?_⟩
  rcases c st with h | ⟨l, q1, q2, q3, q4⟩
  · exact .inl h
  · have hl2 : l ≠ lk := fun z => hl (z ▸ q2)
    exact .inr ⟨l, q1, q4.keep (hid_ne hl2) (hid_tx n)⟩
section
variable {P : Program} {w : World} {K : PySem.W.Frag} {mg : Str → Option Value} {base : Heap}
theorem DfM.ok {x qual : Str} {st : Stmt} {N ps : List Str} {k : Nat} {C : Addr} {sp : Sp} (d : DfM K C x qual st ps) (S : FnScope N ps (defScope st)) (len : ∀ vs H Q E, sp vs H Q E → vs.length = ps.length)
    (hbody : ∀ (f : Addr) (cdv : Value) (A : Around) (outer : List Env) (s : Shared) (H : Hp) (vs : List V) (Q : VK) (E : XK), Room k (A.deeper (envOfC qual (defScope st) s.heap.objs.size f cdv)) → sp vs H Q E →
      ∃ t, PSs (cxOf CX0 P w K mg base N qual (defScope st) f cdv A outer s H E).nox (defBody st) t ∧ t { nx := fun _ H' => Q .non H', rt := Q } (start N vs) H) : OkM P w K mg base (k + 1) C x ps sp := by
  obtain ⟨f, fd, F, g, b⟩ := d.ex
  exact ⟨f, fd, F.ok S len (hbody f), g, b⟩
theorem DfI.ok {x qual : Str} {st : Stmt} {N ps : List Str} {k : Nat} {C : Addr} {sp : Sp} (d : DfI K C x qual st ps) (S : FnScope N ps (defScope st)) (len : ∀ vs H Q E, sp vs H Q E → vs.length = ps.length)
    (hbody : ∀ (f : Addr) (cdv : Value) (A : Around) (outer : List Env) (s : Shared) (H : Hp) (vs : List V) (Q : VK) (E : XK), Room k (A.deeper (envOfC qual (defScope st) s.heap.objs.size f cdv)) → sp vs H Q E →
      ∃ t, PSs (cxOf CX0 P w K mg base N qual (defScope st) f cdv A outer s H E).nox (defBody st) t ∧ t { nx := fun _ H' => Q .non H', rt := Q } (start N vs) H) : OkI P w K mg base (k + 1) C ps sp := by
  obtain ⟨f, fd, F, g, b⟩ := d.ex
  exact ⟨f, fd, F.ok S len (hbody f), g, b⟩
theorem kn1 : ¬ (("moves" : Str) = "sizes") := by decide +kernel
theorem kn2 : ¬ (("closings" : Str) = "sizes") := by decide +kernel
theorem kn3 : ¬ (("kept_goals" : Str) = "sizes") := by decide +kernel
theorem kn4 : ¬ (("closings" : Str) = "moves") := by decide +kernel
theorem kn5 : ¬ (("kept_goals" : Str) = "moves") := by decide +kernel
theorem kn6 : ¬ (("kept_goals" : Str) = "closings") := by decide +kernel
def flds (v1 v2 v3 : V) (lk : Addr) : List (Str × V) := putF "kept_goals" (.ref lk) (putF "closings" v3 (putF "moves" v2 (putF "sizes" v1 [])))
theorem flds_look (v1 v2 v3 : V) (lk : Addr) : (flds v1 v2 v3 lk).lookup ("sizes" : Str) = some v1 ∧ (flds v1 v2 v3 lk).lookup ("moves" : Str) = some v2 ∧ (flds v1 v2 v3 lk).lookup ("closings" : Str) = some v3 ∧ (flds v1 v2 v3 lk).lookup ("kept_goals" : Str) = some (V.ref lk) := by
  unfold flds
  refine ⟨?_, ?_, ?_, ?_⟩
  · rw [lookup_putF, if_neg (fun e => kn3 e.symm), lookup_putF, if_neg (fun e => kn2 e.symm), lookup_putF, if_neg (fun e => kn1 e.symm), lookup_putF, if_pos rfl]
  · rw [lookup_putF, if_neg (fun e => kn5 e.symm), lookup_putF, if_neg (fun e => kn4 e.symm), lookup_putF, if_pos rfl]
  · rw [lookup_putF, if_neg (fun e => kn6 e.symm), lookup_putF, if_pos rfl]
  · rw [lookup_putF, if_pos rfl]
def spKeep (P : Program) (w : World) (C : Addr) : Sp := fun vs H Q _ => ∃ (x dx : Addr) (v1 v2 v3 : V) (z : Sz) (mv : List (List Mv)) (cl : List (List Nat)), vs = [.ref x, v1, v2, v3] ∧ H x = some (.ins C dx []) ∧ Is H z v1 ∧ Is H mv v2 ∧ Is H cl v3 ∧ mv.length ≤ 6 ∧ (∀ row ∈ mv, row.length ≤ 6) ∧
  ∀ H', (∀ b o, H b = some o → b ≠ x → H' b = some o) → Off P w C (Nw H x H') x z mv cl → Q .non H'
set_option maxHeartbeats 8000000 in
theorem ok_keep {C : Addr} (T : TxtO K mg C) (d : DfM K C "keep" "Office.keep" s_keep ["self", "sizes", "moves", "closings"]) : OkM P w K mg base 1 C "keep" ["self", "sizes", "moves", "closings"] (spKeep P w C) := by
  refine d.ok sc_keep (fun vs H Q E h => ?_) (fun f cdv A outer s H vs Q E hr h => ?_)
  · obtain ⟨x, dx, v1, v2, v3, z, mv, cl, rfl, _⟩ := h
    rfl
  · obtain ⟨x, dx, v1, v2, v3, z, mv, cl, rfl, hx, i1, i2, i3, n6, nrow, q⟩ := h
    refine ⟨_, (pss_cons (ps_fld (pv 0) (pv 1) rfl)
      (pss_cons (ps_fld (pv 0) (pv 2) rfl)
      (pss_cons (ps_fld (pv 0) (pv 3) rfl)
      (pss_cons (ps_fld (pv 0) (pe_lstD pa_nil) rfl)
      (pss_one (ps_for PassesOwn.never rfl (pi_tup (pv 2)) (pgn 4 sc_keep.nd)
        (pss_cons (pss 5 sc_keep.nd pe_dnewN)
        (pss_cons (ps_for PassesOwn.never rfl (pi_tup (pv 4)) (pg_tupD rfl (pgs_cons (pgn 6 sc_keep.nd) (pgs_cons (pgn 7 sc_keep.nd) (pgs_cons (pgn 8 sc_keep.nd) (pgs_cons (pgn 9 sc_keep.nd) pgs_nil)))))
          (pss_one (ps_expr (pe_bm PySem.F.plainAttrs_list PySem.F.slot_list_append PySem.F.type_list_append mt_appD (pe_setdN hr.units (pv 5) (pe_tupD (pa_cons (pv 6) (pa_cons (pv 7) (pa_cons (pv 8) pa_nil)))) (pe_lstD pa_nil) ⟨rfl, rfl, rfl, rfl⟩) (pa_cons (pv 9) pa_nil)))))
        (pss_one (ps_expr (pe_bm PySem.F.plainAttrs_list PySem.F.slot_list_append PySem.F.type_list_append mt_append (pe_fld (pv 0) rfl) (pa_cons (pv 5) pa_nil)))))))))))), ?_⟩
    refine ⟨_, rfl, _, rfl, x, C, dx, _, rfl, hx, T.cl, T.nS, (by show 0 < 1000; decide), ?_⟩
    refine ⟨_, rfl, _, rfl, x, C, dx, _, rfl, upd_same, T.cl, T.nM, (by show 1 < 1000; decide), ?_⟩
    refine ⟨_, rfl, _, rfl, x, C, dx, _, rfl, upd_same, T.cl, T.nC, (by show 2 < 1000; decide), ?_⟩
    refine ⟨[], dats_nil, Nat.zero_le _, fun lk H1 nlk a1 llk => ?_⟩
    have nlx : lk ≠ x := fun z => by
      rw [z, upd_same] at nlk
      cases nlk
    have hx1 : H1 x = some (.ins C dx (putF "closings" v3 (putF "moves" v2 (putF "sizes" v1 [])))) := by
      rw [a1 x nlx.symm]
      exact upd_same
    refine ⟨_, rfl, x, C, dx, _, rfl, hx1, T.cl, T.nK, (by show 3 < 1000; decide), ?_⟩
    generalize hH2 : upd H1 x (.ins C dx (putF "kept_goals" (.ref lk) (putF "closings" v3 (putF "moves" v2 (putF "sizes" v1 []))))) = H2
    have hx2 : H2 x = some (.ins C dx (flds v1 v2 v3 lk)) := by
      rw [← hH2]
      exact upd_same
    have nx0 : ∀ xs, H x ≠ some (.tup xs) := fun xs e => by
      rw [hx] at e
      cases e
    have kept : ∀ b o, H b = some o → b ≠ x → H2 b = some o := fun b o e hb => by
      have hbl : b ≠ lk := fun z => by
        rw [z] at e
        rw [upd_ne nlx, upd_ne nlx, upd_ne nlx, e] at nlk
        cases nlk
      rw [← hH2, upd_ne hb, a1 b hbl, upd_ne hb, upd_ne hb, upd_ne hb]
      exact e
    have t2 : Tx H H2 := fun b xs e => kept b _ e fun z => nx0 xs (z ▸ e)
    have hlk : H2 lk = some (.lst []) := by
      obtain ⟨vs, e1, e2⟩ := llk
      rw [dats_of_nil e2] at e1
      rw [← hH2, upd_ne nlx]
      exact e1
    have nl0 : H lk = none := by
      rw [upd_ne nlx, upd_ne nlx, upd_ne nlx] at nlk
      exact nlk
    have i2' := Dat.mono t2 _ _ i2
    obtain ⟨a, xs, rfl, ha, hxs⟩ := dat_tup.mp i2'
    have hlen := dats_len hxs
    rw [List.length_map] at hlen
    refine ⟨_, rfl, a, rfl, ⟨xs, SqT.of ha⟩, for_tup (xs := xs) (fun i σ H' => ∃ refs : List V, (∃ u4 u5 u6 u7 u8 u9, σ = [some (.ref x), some v1, some (.ref a), some v3, u4, u5, u6, u7, u8, u9]) ∧ Same (hid H2 lk) H' ∧ H' lk = some (.lst refs) ∧ refs.length = i ∧ ∀ (j : Nat) (row : List Mv), j < i → mv[j]? = some row → ∃ d : Addr, refs[j]? = some (V.ref d) ∧ GoalD P w (Nw H x (hid H' lk)) d row)
      ⟨[], ⟨none, none, none, none, none, none, rfl⟩, hid_same, hlk, rfl, fun j row hj _ => absurd hj (Nat.not_lt_zero _)⟩ (fun i σ H' _ p => ?_) ?_ ?_⟩
    · obtain ⟨refs, _, sm, _⟩ := p
      refine SqT.of (sm _ _ ?_)
      rw [hid_ne (fun z => by rw [z, hlk] at ha; cases ha)]
      exact ha
    · rintro i v σ H' hv ⟨refs, ⟨u4, u5, u6, u7, u8, u9, rfl⟩, sm, hlk', hrl, all⟩
      obtain ⟨dd, h1, h2⟩ := dats_getV hxs hv
      rw [List.getElem?_map] at h1
      obtain ⟨row, hrow, rfl⟩ := Option.map_eq_some_iff.mp h1
      have r6 := nrow row (List.mem_of_getElem? hrow)
      have nt2 : ∀ xs, H2 lk ≠ some (.tup xs) := fun xs e => by
        rw [hlk] at e
        cases e
      have hrw : Is H' row v := (Dat.mono (hid_tx nt2) _ _ h2).same sm
      -- goals = {}
      refine fun d H3 nd3 a3 D3 => ?_
      have s3 : Same H' H3 := a3.same nd3
      obtain ⟨b, ys, rfl, hb, hys⟩ := dat_tup.mp (hrw.same s3)
      have hl2 := dats_len hys
      rw [List.length_map] at hl2
      refine ⟨_, rfl, b, rfl, ⟨ys, SqT.of hb⟩, for_tup (xs := ys) (fun i σ H4 => (∃ u6 u7 u8 u9, σ = [some (.ref x), some v1, some (.ref a), some v3, some (.ref b), some (.ref d), u6, u7, u8, u9]) ∧ Same H' H4 ∧ GoalF P w H' H4 d row i)
        ⟨⟨u6, u7, u8, u9, rfl⟩, s3, [], D3, Nat.le_refl 0, fun st => .inl ⟨rfl, rfl⟩, fun st st' l e => by cases e⟩ (fun i σ H4 _ p => ?_) ?_ ?_⟩
      · refine SqT.of (p.2.1 _ _ ?_)
        by_cases z : b = d
        · rw [z] at hb
          exact absurd hb (D3.ntup ys)
        · rw [← a3 b z]
          exact hb
      · rintro k v H4σ H4 hv2 ⟨⟨u6, u7, u8, u9, rfl⟩, s4, kvs, Dk, lk4, each, inj⟩
        obtain ⟨dm, h3, h4⟩ := dats_getV hys hv2
        rw [List.getElem?_map] at h3
        obtain ⟨m, hm, rfl⟩ := Option.map_eq_some_iff.mp h3
        have hk : k < row.length := (List.getElem?_eq_some_iff.mp hm).1
        have tk : row.take (k + 1) = row.take k ++ [m] := by
          rw [List.take_succ, hm]
          rfl
        have bnd : b ≠ d := fun z => by
          rw [z] at hb
          exact D3.ntup ys hb
        have hb' : H' b = some (.tup ys) := by
          rw [← a3 b bnd]
          exact hb
        have tx34 : Tx H3 H4 := fun c cs e => by
          have hc : c ≠ d := fun z => D3.ntup cs (z ▸ e)
          exact s4 _ _ (by rw [← a3 c hc]; exact e)
        have h4' : Is H4 m v := Dat.mono tx34 _ _ h4
        refine ⟨_, h4', rfl, fun ws hws => ?_⟩
        obtain ⟨w1, r1, rfl, e1, g1⟩ := dats_of_cons hws
        obtain ⟨w2, r2, rfl, e2, g2⟩ := dats_of_cons g1
        obtain ⟨w3, r3, rfl, e3, g3⟩ := dats_of_cons g2
        obtain ⟨w4, r4, rfl, e4, g4⟩ := dats_of_cons g3
        have g5 := dats_of_nil g4
        subst g5
        rw [dat_num] at e1 e2 e3 e4
        subst e1 e2 e3 e4
        refine ⟨_, _, rfl, _, _, rfl, _, _, rfl, _, _, rfl, rfl, ?_⟩
        -- goals.setdefault((slip, answer, mark), []).append(goal)
        refine ⟨_, rfl, d, rfl, ⟨kvs, Dk⟩, _, rfl, _, rfl, _, rfl, [.num m.s, .num m.a, .num m.m], dats_cons (dat_num.mpr rfl) (dats_cons (dat_num.mpr rfl) (dats_cons (dat_num.mpr rfl) dats_nil)), by show 3 ≤ sizeLine; decide, fun y H5 s5 hy => ?_⟩
        refine ⟨[], dats_nil, Nat.zero_le _, fun p H6 np6 a6 l6 => ?_⟩
        have s6 : Same H5 H6 := a6.same np6
        have s46 : Same H4 H6 := s5.trans s6
        have Dk6 : DN P w H6 d kvs := Dk.same s46
        refine ⟨kvs, _, Dk6, hy.same s6, okd m.stp, (by have := sizeLine_eq; omega), fun v0 hv0 => ?_, fun hn H7 a7 D7 => ?_⟩
        · rcases each m.stp with ⟨h, _⟩ | ⟨l, q1, q2, q3, q4⟩
          · have hv0' : valV kvs (enc m.stp) = some v0 := hv0
            rw [h] at hv0'
            cases hv0'
          · have hv0' : valV kvs (enc m.stp) = some v0 := hv0
            rw [q1] at hv0'
            cases hv0'
            have q6 := q4.same s46
            obtain ⟨zs, z1, z2⟩ := id q6
            refine ⟨.inl ⟨rfl, _, SqL.of z1⟩, _, rfl, l, _, .num m.g, _, rfl, rfl, q6, dat_num.mpr rfl, ?_, fun H7 a7 l7 => ?_⟩
            · rw [List.length_map]
              have := sizeLine_eq
              have g0 : (goalsAt (row.take k) m.stp).length ≤ row.length := by
                unfold goalsAt
                rw [List.length_map]
                have h5 := List.length_filter_le (fun m' : Mv => decide (m'.stp = m.stp)) (row.take k)
                have h6 := List.length_take_le k row
                have h7 : (row.take k).length ≤ row.length := by rw [List.length_take]; omega
                omega
              omega
            · have t7 : Tx H6 H7 := a7.tx q6.ntup
              refine ⟨⟨_, _, _, _, rfl⟩, At1.sameOf (s4.trans s46) a7 q2, kvs, Dk6.keep (a7 d q3.symm) t7, by omega, fun st => ?_, inj⟩
              rw [tk, goalsAt_snoc]
              by_cases e : m.stp = st
              · subst e
                refine .inr ⟨l, q1, q2, q3, ?_⟩
                rw [if_pos rfl]
                show Lsd H7 l ((goalsAt (row.take k) m.stp ++ [m.g]).map enc)
                rw [List.map_append]
                exact l7
              · rw [if_neg e, List.append_nil]
                rcases each st with h | ⟨l', p1, p2, p3, p4⟩
                · exact .inl h
                · have ne : l' ≠ l := fun z => e (inj m.stp st l q1 (z ▸ p1))
                  exact .inr ⟨l', p1, p2, p3, (p4.same s46).keep (a7 l' ne) t7⟩
        · have pd : p ≠ d := fun z => by
            rw [z] at np6
            exact (Dk.same s5).some np6
          have hp7 : Lsd H7 p [] := l6.keep (a7 p pd) (a7.tx Dk6.ntup)
          obtain ⟨zs, z1, z2⟩ := id hp7
          refine ⟨.inl ⟨rfl, _, SqL.of z1⟩, _, rfl, p, [], .num m.g, _, rfl, rfl, hp7, dat_num.mpr rfl, by show 0 < sizeLine; decide, fun H8 a8 l8 => ?_⟩
          have np' : H' p = none := (s4.trans s5).free np6
          have t7 : Tx H6 H7 := a7.tx Dk6.ntup
          have t8 : Tx H7 H8 := a8.tx hp7.ntup
          have nd' : H' d = none := nd3
          refine ⟨⟨_, _, _, _, rfl⟩, At1.sameOf (At1.sameOf (s4.trans s46) a7 nd') a8 np', _, D7.keep (a8 d pd.symm) t8, by have := length_putK kvs (NestedKey.tup [.num m.s, .num m.a, .num m.m]) (V.ref p); omega, fun st => ?_, fun st st' l e1 e2 => ?_⟩
          · rw [tk, goalsAt_snoc, valV_put]
            by_cases e : m.stp = st
            · subst e
              rw [if_pos (show enc m.stp = NestedKey.tup [.num m.s, .num m.a, .num m.m] from rfl)]
              refine .inr ⟨p, rfl, np', pd, ?_⟩
              rcases each m.stp with ⟨_, h⟩ | ⟨l', p1, _⟩
              · rw [h, if_pos rfl]
                exact l8
              · have : valV kvs (enc m.stp) = none := hn
                rw [this] at p1
                cases p1
            · rw [if_neg (fun z : enc st = NestedKey.tup [.num m.s, .num m.a, .num m.m] => e (Enc.inj st m.stp z).symm), if_neg e, List.append_nil]
              rcases each st with h | ⟨l', p1, p2, p3, p4⟩
              · exact .inl h
              · have ne : l' ≠ p := fun z => (p4.same s5).some (z ▸ np6)
                exact .inr ⟨l', p1, p2, p3, ((p4.same s46).keep (a7 l' p3) t7).keep (a8 l' ne) t8⟩
          · rw [valV_put] at e1 e2
            have old : ∀ st : Stp, valV kvs (enc st) = some (.ref p) → False := fun st e => by
              rcases each st with ⟨h, _⟩ | ⟨l', p1, p2, p3, p4⟩
              · rw [h] at e
                cases e
              · rw [p1] at e
                cases e
                exact (p4.same s5).some np6
            by_cases c1 : st = m.stp
            · by_cases c2 : st' = m.stp
              · rw [c1, c2]
              · subst c1
                rw [if_pos (show enc m.stp = NestedKey.tup [.num m.s, .num m.a, .num m.m] from rfl)] at e1
                rw [if_neg (fun z : enc st' = NestedKey.tup [.num m.s, .num m.a, .num m.m] => c2 (Enc.inj st' m.stp z))] at e2
                cases e1
                exact (old st' e2).elim
            · rw [if_neg (fun z : enc st = NestedKey.tup [.num m.s, .num m.a, .num m.m] => c1 (Enc.inj st m.stp z))] at e1
              by_cases c2 : st' = m.stp
              · subst c2
                rw [if_pos (show enc m.stp = NestedKey.tup [.num m.s, .num m.a, .num m.m] from rfl)] at e2
                cases e2
                exact (old st e1).elim
              · rw [if_neg (fun z : enc st' = NestedKey.tup [.num m.s, .num m.a, .num m.m] => c2 (Enc.inj st' m.stp z))] at e2
                exact inj st st' l e1 e2
      · rintro σ H4 ⟨⟨u6, u7, u8, u9, rfl⟩, s4, G4⟩
        have hx4 : H4 x = some (.ins C dx (flds v1 (.ref a) v3 lk)) := s4 _ _ (sm _ _ (by rw [hid_ne nlx.symm]; exact hx2))
        have hlk4 : H4 lk = some (.lst refs) := s4 _ _ hlk'
        have ndlk : d ≠ lk := fun z => by
          rw [z, hlk'] at nd3
          cases nd3
        refine ⟨_, rfl, x, C, dx, _, _, rfl, hx4, T.cl, T.nK, (flds_look v1 (.ref a) v3 lk).2.2.2, ?_⟩
        refine ⟨.inl ⟨rfl, _, SqL.of hlk4⟩, _, rfl, lk, refs, .ref d, rfl, rfl, hlk4, (by have := sizeLine_eq; have := (List.getElem?_eq_some_iff.mp hv).1; omega), ?_⟩
        have ntl : ∀ xs, H4 lk ≠ some (.tup xs) := fun xs e => by
          rw [hlk4] at e
          cases e
        have hide : ∀ b, hid (upd H4 lk (.lst (refs ++ [.ref d]))) lk b = hid H4 lk b := fun b => by
          by_cases z : b = lk
          · subst z
            simp [hid]
          · rw [hid_ne z, hid_ne z, upd_ne z]
        have hide' : hid (upd H4 lk (.lst (refs ++ [.ref d]))) lk = hid H4 lk := funext hide
        refine ⟨refs ++ [.ref d], ⟨_, _, _, _, _, _, rfl⟩, fun b o e => ?_, upd_same, by simp [hrl], fun j row' hj hr' => ?_⟩
        · have hbl : b ≠ lk := fun z => by
            rw [z] at e
            unfold hid at e
            rw [if_pos rfl] at e
            cases e
          rw [upd_ne hbl]
          exact s4 _ _ (sm _ _ e)
        · rw [hide']
          by_cases hji : j < i
          · obtain ⟨d', e1, e2⟩ := all j row' hji hr'
            refine ⟨d', ?_, e2.same (nw_mono fun b o e => ?_)⟩
            · rw [List.getElem?_append_left (by omega)]
              exact e1
            · have hbl : b ≠ lk := fun z => by
                rw [z] at e
                unfold hid at e
                rw [if_pos rfl] at e
                cases e
              rw [hid_ne hbl] at e ⊢
              exact s4 _ _ e
          · have hji' : j = i := by omega
            subst hji'
            rw [hrow] at hr'
            cases hr'
            refine ⟨d, ?_, ?_⟩
            · rw [List.getElem?_append_right (by omega), hrl, Nat.sub_self]
              rfl
            · rw [hl2] at G4
              refine G4.done' ndlk (by rw [hlk']; intro z; cases z) ntl nd3 fun b nb => ?_
              cases e : H b with
              | none => rfl
              | some o =>
                have hbx : b ≠ x := fun z => by
                  have hx5 : H' x = some (.ins C dx (flds v1 (.ref a) v3 lk)) := sm _ _ (by rw [hid_ne nlx.symm]; exact hx2)
                  rw [z, hx5] at nb
                  cases nb
                have hbl : b ≠ lk := fun z => by
                  rw [z, nl0] at e
                  cases e
                have := sm b o (by rw [hid_ne hbl]; exact kept b o e hbx)
                rw [nb] at this
                cases this
    · rintro σ H' ⟨refs, ⟨u4, u5, u6, u7, u8, u9, rfl⟩, sm, hlk', hrl, all⟩
      have nt2 : ∀ xs, H2 lk ≠ some (.tup xs) := fun xs e => by
        rw [hlk] at e
        cases e
      have hx' : H' x = some (.ins C dx (flds v1 (.ref a) v3 lk)) := sm _ _ (by rw [hid_ne nlx.symm]; exact hx2)
      have txx : Tx H H' := fun b cs e => sm _ _ (hid_tx nt2 _ _ (t2 _ _ e))
      obtain ⟨f1, f2, f3, f4⟩ := flds_look v1 (.ref a) v3 lk
      have nx : Tx H' (Nw H x H') := nw_tx
      refine q H' (fun b o e hb => sm _ _ ?_) ⟨dx, _, v1, .ref a, v3, lk, refs, nw_some.mpr ⟨hx', .inl rfl⟩, f1, f2, f3, f4, Dat.mono (txx.trans nx) _ _ i1, Dat.mono (txx.trans nx) _ _ i2, Dat.mono (txx.trans nx) _ _ i3, nw_some.mpr ⟨hlk', .inr (.inl nl0)⟩, by omega, fun j row hj => ?_⟩
      · have hbl : b ≠ lk := fun z => by
          rw [z, nl0] at e
          cases e
        rw [hid_ne hbl]
        exact kept b o e hb
      · have hjl := (List.getElem?_eq_some_iff.mp hj).1
        obtain ⟨d, e1, e2⟩ := all j row (by omega) hj
        exact ⟨d, e1, e2.same (nw_mono hid_same)⟩
end
end Fd

/-! An office is made (2). -/
namespace Fd
open PySem PySem.Spec PyProof.Rows L2
open Enc (enc)
section
variable {X : Cx} {k n : Nat} {ps : List Str} {sp : Sp} {x m : Str} {C : Addr} {p pos apos : Pos} {o e : Expr} {es : List Expr} {t : TA} {ta : TE}
theorem pe_methO {pl : Sem Bool} (O : OkM X.prog X.w X.K X.mg X.base k C m ps sp) (c : Cls X.K C) (hr : Room n X.A) (he : PE X o ta) (ha : PA X (e :: es) t) (hk : k ≤ n := by decide)
    (hst : starEach (e :: es) X.env = (false, eval e X.env) :: starEach es X.env := by rfl) (hpl : (backTo pos (starEach es X.env)).any (·.1) = false := by rfl)
    (ht : eval (.Call (.Attribute o m apos) (e :: es) [] pos) X.env = (do
      let ov ← eval o X.env
      standAt apos.atName
      let (f, first) ← holding [ov] (getMethod ov m pl)
      callWith pos f first (backTo pos (starEach (e :: es) X.env)) (backToKw pos (keywordEach [] X.env))) := by rfl) :
    PE X (.Call (.Attribute o m apos) (e :: es) [] pos) (tMeth C m sp [] E0 ta t) := by
  obtain ⟨f, fd, G, g, b⟩ := O.ex
  exact pe_meth he c g G (hr.mono hk) b .nil pass0 ha hst hpl ht
theorem pe_makeO (O : OkI X.prog X.w X.K X.mg X.base k C ps sp) (hr : Room n X.A) (hm : X.mg x = some (.ref C)) (ha : PA X (e :: es) t) (hk : k + 1 ≤ n := by decide) (hg : Gl X x := by rfl) (hdb : (x == ("__debug__" : Str)) = false := by decide)
    (he : starEach (e :: es) X.env = (false, eval e X.env) :: starEach es X.env := by rfl) (hpl : (backTo pos (starEach es X.env)).any (·.1) = false := by rfl) : PE X (.Call (.Name x p) (e :: es) [] pos) (tMake C sp [] E0 t) := by
  obtain ⟨f, fd, G, g, b⟩ := O.ex
  exact pe_make g G (hr.mono hk) hg hm b .nil pass0 ha hdb he hpl
end
/-- what an office is made of -/
structure Pts where
  z : Sz
  mv : List (List Mv)
  cl : List (List Nat)
instance : Enc Pts where
  enc p := .tup [enc p.z, enc p.mv, enc p.cl]
  dep := 4
  wf p := by simp [plain, plainAll, Enc.wf]
  hd p := by
    have h1 : (enc p.z).depth ≤ 1 := Enc.hd p.z
    have h2 : (enc p.mv).depth ≤ 3 := Enc.hd p.mv
    have h3 : (enc p.cl).depth ≤ 2 := Enc.hd p.cl
    simp only [NestedKey.depth, NestedKey.depthAll]
    omega
  inj p q h := by
    cases p
    cases q
    injection h with h
    simp only [List.cons.injEq, and_true] at h
    obtain ⟨h1, h2, h3⟩ := h
    rw [Enc.inj _ _ h1, Enc.inj _ _ h2, Enc.inj _ _ h3]
structure PtsOk (p : Pts) : Prop where
  s : 1 ≤ p.z.s ∧ p.z.s ≤ 3
  a : 1 ≤ p.z.a ∧ p.z.a ≤ 3
  m : 1 ≤ p.z.m ∧ p.z.m ≤ 3
  mv : MovesOk p.z p.mv
  cl : ClosOk p.z p.cl
  len : p.cl.length = p.mv.length
section
variable {P : Program} {w : World} {K : PySem.W.Frag} {mg : Str → Option Value} {base : Heap}
def spInit (P : Program) (w : World) (C : Addr) : Sp := fun vs H Q _ => ∃ (x dx : Addr) (v1 v2 v3 : V) (p : Pts), vs = [.ref x, v1, v2, v3] ∧ H x = some (.ins C dx []) ∧ Is H p.z v1 ∧ Is H p.mv v2 ∧ Is H p.cl v3 ∧ PtsOk p ∧
  ∀ H', (∀ b o, H b = some o → b ≠ x → H' b = some o) → Off P w C (Nw H x H') x p.z p.mv p.cl → Q .non H'
theorem ok_init {C : Addr} (T : TxtO K mg C) (B : Bi mg) (o_are_sizes : Ok P w K mg base 3 "are_sizes" ["thing"] spAreSizes) (o_are_moves : Ok P w K mg base 4 "are_moves" ["sizes", "thing"] spAreMoves)
    (o_are_closings : Ok P w K mg base 3 "are_closings" ["sizes", "many", "thing"] spAreClosings) (O_keep : OkM P w K mg base 1 C "keep" ["self", "sizes", "moves", "closings"] (spKeep P w C))
    (d : DfI K C "__init__" "Office.__init__" s_init ["self", "sizes", "moves", "closings"]) : OkI P w K mg base 5 C ["self", "sizes", "moves", "closings"] (spInit P w C) := by
  refine d.ok sc_init (fun vs H Q E h => ?_) (fun f cdv A outer s H vs Q E hr h => ?_)
  · obtain ⟨x, dx, v1, v2, v3, p, rfl, _⟩ := h
    rfl
  · obtain ⟨x, dx, v1, v2, v3, p, rfl, hx, i1, i2, i3, ok, q⟩ := h
    refine ⟨_, (pss_cons (ps_if (pt_not (pt_val (pe_fn o_are_sizes hr (pa_cons (pv 1) pa_nil))))
        (pss_one ps_never)
        pss_nil)
      (pss_cons (ps_if (pt_not (pt_val (pe_fn o_are_moves hr (pa_cons (pv 1) (pa_cons (pv 2) pa_nil)))))
        (pss_one ps_never)
        pss_nil)
      (pss_cons (ps_if (pt_not (pt_val (pe_fn o_are_closings hr (pa_cons (pv 1) (pa_cons (pe_callB cr_lenD (by rfl) B.len (by decide +kernel) (pa_cons (pv 2) pa_nil)) (pa_cons (pv 3) pa_nil))))))
        (pss_one ps_never)
        pss_nil)
      (pss_one (ps_expr (pe_methO O_keep T.cl hr (pv 0) (pa_cons (pv 1) (pa_cons (pv 2) (pa_cons (pv 3) pa_nil))))))))), ?_⟩
    obtain ⟨b1, b2⟩ := ok.s
    obtain ⟨b3, b4⟩ := ok.a
    obtain ⟨b5, b6⟩ := ok.m
    refine ⟨_, rfl, _, p.z, rfl, i1, ⟨b1, by omega⟩, ⟨b3, by omega⟩, ⟨b5, by omega⟩, fun H1 s1 => ⟨_, rfl, iteF ?_⟩⟩
    refine ⟨_, rfl, _, rfl, _, _, p.z, p.mv, rfl, i1.same s1, i2.same s1, ok.mv, fun H2 s2 => ⟨_, rfl, iteF ?_⟩⟩
    have s02 := s1.trans s2
    refine ⟨_, rfl, _, rfl, _, _, rfl, .inl (i2.same s02), _, rfl, _, _, p.z, p.cl, by rw [List.length_map, ok.len]; rfl, i1.same s02, i3.same s02, ok.cl, by rw [ok.len]; exact ok.mv.1.2, fun H3 s3 => ⟨_, rfl, iteF ?_⟩⟩
    have s03 := s02.trans s3
    refine ⟨_, rfl, x, dx, [], rfl, s03 _ _ hx, rfl, _, rfl, _, rfl, _, rfl, x, dx, _, _, _, p.z, p.mv, p.cl, rfl, s03 _ _ hx, i1.same s03, i2.same s03, i3.same s03, ok.mv.1.2, fun row hr => (ok.mv.2 row hr).2.2, fun H4 kp off => ?_⟩
    exact q H4 (fun b o e hb => kp b o (s03 b o e) hb) (off.same (nw_back fun a h => s03.free h))
def spMade (P : Program) (w : World) (C : Addr) : Sp := fun vs H Q _ => ∃ (v : V) (p : Pts), vs = [v] ∧ Is H p v ∧ PtsOk p ∧ ∀ x H', Same H H' → Off P w C (Nw H x H') x p.z p.mv p.cl → H x = none → Q (.ref x) H'
theorem ok_made {C : Addr} (T : TxtO K mg C) (O_init : OkI P w K mg base 5 C ["self", "sizes", "moves", "closings"] (spInit P w C)) (d : Df K mg "_law_made" "_law_made" s__law_made ["_law_parts_here"]) : Ok P w K mg base 7 "_law_made" ["_law_parts_here"] (spMade P w C) := by
  refine d.ok sc__law_made (fun vs H Q E h => ?_) (fun f cdv A outer s H vs Q E hr h => ?_)
  · obtain ⟨v, p, rfl, _⟩ := h
    rfl
  · obtain ⟨v, p, rfl, hv, ok, q⟩ := h
    refine ⟨_, (pss_one (ps_ret (pe_makeO O_init hr T.mgC (pa_cons (pe_ix ix_dat (pv 0) pe_int (fun _ _ => rfl)) (pa_cons (pe_ix ix_dat (pv 0) pe_int (fun _ _ => rfl)) (pa_cons (pe_ix ix_dat (pv 0) pe_int (fun _ _ => rfl)) pa_nil)))))), ?_⟩
    refine ⟨_, rfl, _, 0, _, hv, rfl, rfl, fun v1 h1 => ⟨_, rfl, _, 1, _, hv, rfl, rfl, fun v2 h2 => ⟨_, rfl, _, 2, _, hv, rfl, rfl, fun v3 h3 => ?_⟩⟩⟩
    intro x dx nx ndx ne
    have s1 : Same H (upd (upd H dx (.own x)) x (.ins C dx [])) := (same_new ndx).trans (same_new (by rw [upd_ne ne.symm]; exact nx))
    refine ⟨x, dx, v1, v2, v3, p, rfl, upd_same, h1.same s1, h2.same s1, h3.same s1, ok, fun H' kp off => ⟨rfl, q x H' (fun b o e => kp b o (s1 b o e) fun z => ?_) (off.same (nw_back fun a h => s1.free h)) nx⟩⟩
    rw [z, nx] at e
    cases e
end
end Fd

/-! Boards and parts of days. -/
namespace Fd
open PySem PySem.Spec PyProof.Rows L2
open Enc (enc)
abbrev s_board_of : Stmt := topS 23
theorem sc_board_of : FnScope ["day", "step"] ["day"] (defScope s_board_of) := ⟨rfl, rfl, rfl, by decide +kernel, rfl, by decide +kernel, by decide +kernel⟩
abbrev s_part_of : Stmt := topS 36
theorem sc_part_of : FnScope ["steps", "lot", "place"] ["steps", "lot"] (defScope s_part_of) := ⟨rfl, rfl, rfl, by decide +kernel, rfl, by decide +kernel, by decide +kernel⟩
abbrev s__law_board : Stmt := topS 62
theorem sc__law_board : FnScope ["_law_day", "_law_step"] ["_law_day"] (defScope s__law_board) := ⟨rfl, rfl, rfl, by decide +kernel, rfl, by decide +kernel, by decide +kernel⟩
abbrev s__law_part : Stmt := topS 63
theorem sc__law_part : FnScope ["_law_day", "_law_lot_here", "_law_place"] ["_law_day", "_law_lot_here"] (defScope s__law_part) := ⟨rfl, rfl, rfl, by decide +kernel, rfl, by decide +kernel, by decide +kernel⟩
abbrev Day := List Stp × Nat
def boardOf (d : Day) : List Nat × Nat := (d.1.map (·.m), d.2)
def stpAt (ss : List Stp) (p : Nat) : Stp := ss.getD p ⟨0, 0, 0⟩
def partOf (ss : List Stp) (lot : List Nat) : List Stp := lot.map (stpAt ss)
def noteAt (ss : List Stp) (p : Nat) : Nat × Nat := ((stpAt ss p).s, (stpAt ss p).a)
def notesOf (ss : List Stp) (lot : List Nat) : List (Nat × Nat) := lot.map (noteAt ss)
theorem stpAt_get {ss : List Stp} {p : Nat} (h : p < ss.length) : ss[p]? = some (stpAt ss p) := by
  unfold stpAt
  rw [List.getElem?_eq_getElem h, List.getD_eq_getElem?_getD, List.getElem?_eq_getElem h]
  rfl
section
variable {P : Program} {w : World} {K : PySem.W.Frag} {mg : Str → Option Value} {base : Heap}
def spBoard : Sp := fun vs H Q _ => ∃ (v : V) (d : Day), vs = [v] ∧ Is H d v ∧ d.1.length ≤ 1000 ∧ ∀ v' H', Same H H' → Is H' (boardOf d) v' → Q v' H'
theorem ok_board_of (B : Bi mg) (d : Df K mg "board_of" "board_of" s_board_of ["day"]) : Ok P w K mg base 1 "board_of" ["day"] spBoard := by
  refine d.ok sc_board_of (fun vs H Q E h => ?_) (fun f cdv A outer s H vs Q E hr h => ?_)
  · obtain ⟨v, d, rfl, _⟩ := h
    rfl
  · obtain ⟨v, d, rfl, hv, hz, q⟩ := h
    refine ⟨_, (pss_one (ps_ret (pe_tupD (pa_cons (pe_callTy cr_tupD (by rfl) B.tuple (by decide +kernel) (pa_cons (pe_lc (own := [("step", 1)]) rfl sc_board_of.nd (pi_tup (pe_ix ix_dat (pv 0) pe_int (fun _ _ => rfl))) (blkOk_by (N := ["day", "step"]) (sc := defScope s_board_of) (by decide +kernel)) (fun _ _ _ _ _ => (pgn 1 sc_board_of.nd)) (fun _ _ _ _ _ => pts_nil) (fun _ _ _ _ _ => (pe_ix ix_dat (pv 1) pe_int (fun _ _ => rfl)))) pa_nil)) (pa_cons (pe_ix ix_dat (pv 0) pe_int (fun _ _ => rfl)) pa_nil))))), ?_⟩
    refine ⟨_, rfl, _, 0, _, hv, rfl, rfl, fun v1 h1 => ?_⟩
    obtain ⟨a, xs, rfl, ha, hxs⟩ := dat_tup.mp h1
    have hlen := dats_len hxs
    rw [List.length_map] at hlen
    refine ⟨a, rfl, ⟨xs, SqT.of ha⟩, fun D hD => lc_is walk_tup (fun i => d.1[i]?.map (·.m)) (by have := sizeLine_eq; omega) hD (fun H' sm => SqT.of (sm _ _ ha)) (fun i x H' hx sm => ?_) ?_ ?_⟩
    · obtain ⟨dd, g1, g2⟩ := dats_getV hxs hx
      rw [List.getElem?_map] at g1
      obtain ⟨st, hst, rfl⟩ := Option.map_eq_some_iff.mp g1
      rw [hst]
      exact evb_yes
    · intro i x H' b hx sm hb Q' q'
      obtain ⟨dd, g1, g2⟩ := dats_getV hxs hx
      rw [List.getElem?_map] at g1
      obtain ⟨st, hst, rfl⟩ := Option.map_eq_some_iff.mp g1
      rw [hst] at hb
      cases hb
      exact ⟨_, rfl, _, 2, _, g2.same sm, rfl, rfl, fun u hu => q' u _ (Same.refl _) hu⟩
    · intro H' sm ls
      have e : xs.length = (d.1.map (·.m)).length := by rw [List.length_map]; exact hlen
      rw [e, outs_map (fun i => (List.getElem?_map ..).symm)] at ls
      refine ⟨D, _, rfl, ls, fun v2 H2 s2 h2 => ⟨_, rfl, _, 1, _, (hv.same sm).same s2, rfl, rfl, fun v3 h3 => ?_⟩⟩
      exact ⟨_, dats_cons h2 (dats_cons h3 dats_nil), by show 2 ≤ sizeLine; rw [sizeLine_eq]; omega, fun v4 H4 s4 h4 => q v4 H4 ((sm.trans s2).trans s4) h4⟩
theorem ok_law_board (B : Bi mg) (d : Df K mg "_law_board" "_law_board" s__law_board ["_law_day"]) : Ok P w K mg base 1 "_law_board" ["_law_day"] spBoard := by
  refine d.ok sc__law_board (fun vs H Q E h => ?_) (fun f cdv A outer s H vs Q E hr h => ?_)
  · obtain ⟨v, d, rfl, _⟩ := h
    rfl
  · obtain ⟨v, d, rfl, hv, hz, q⟩ := h
    refine ⟨_, (pss_one (ps_ret (pe_tupD (pa_cons (pe_callTy cr_tupD (by rfl) B.tuple (by decide +kernel) (pa_cons (pe_lc (own := [("_law_step", 1)]) rfl sc__law_board.nd (pi_tup (pe_ix ix_dat (pv 0) pe_int (fun _ _ => rfl))) (blkOk_by (N := ["_law_day", "_law_step"]) (sc := defScope s__law_board) (by decide +kernel)) (fun _ _ _ _ _ => (pgn 1 sc__law_board.nd)) (fun _ _ _ _ _ => pts_nil) (fun _ _ _ _ _ => (pe_ix ix_dat (pv 1) pe_int (fun _ _ => rfl)))) pa_nil)) (pa_cons (pe_ix ix_dat (pv 0) pe_int (fun _ _ => rfl)) pa_nil))))), ?_⟩
    refine ⟨_, rfl, _, 0, _, hv, rfl, rfl, fun v1 h1 => ?_⟩
    obtain ⟨a, xs, rfl, ha, hxs⟩ := dat_tup.mp h1
    have hlen := dats_len hxs
    rw [List.length_map] at hlen
    refine ⟨a, rfl, ⟨xs, SqT.of ha⟩, fun D hD => lc_is walk_tup (fun i => d.1[i]?.map (·.m)) (by have := sizeLine_eq; omega) hD (fun H' sm => SqT.of (sm _ _ ha)) (fun i x H' hx sm => ?_) ?_ ?_⟩
    · obtain ⟨dd, g1, g2⟩ := dats_getV hxs hx
      rw [List.getElem?_map] at g1
      obtain ⟨st, hst, rfl⟩ := Option.map_eq_some_iff.mp g1
      rw [hst]
      exact evb_yes
    · intro i x H' b hx sm hb Q' q'
      obtain ⟨dd, g1, g2⟩ := dats_getV hxs hx
      rw [List.getElem?_map] at g1
      obtain ⟨st, hst, rfl⟩ := Option.map_eq_some_iff.mp g1
      rw [hst] at hb
      cases hb
      exact ⟨_, rfl, _, 2, _, g2.same sm, rfl, rfl, fun u hu => q' u _ (Same.refl _) hu⟩
    · intro H' sm ls
      have e : xs.length = (d.1.map (·.m)).length := by rw [List.length_map]; exact hlen
      rw [e, outs_map (fun i => (List.getElem?_map ..).symm)] at ls
      refine ⟨D, _, rfl, ls, fun v2 H2 s2 h2 => ⟨_, rfl, _, 1, _, (hv.same sm).same s2, rfl, rfl, fun v3 h3 => ?_⟩⟩
      exact ⟨_, dats_cons h2 (dats_cons h3 dats_nil), by show 2 ≤ sizeLine; rw [sizeLine_eq]; omega, fun v4 H4 s4 h4 => q v4 H4 ((sm.trans s2).trans s4) h4⟩
def spPart : Sp := fun vs H Q _ => ∃ (v u : V) (ss : List Stp) (lot : List Nat), vs = [v, u] ∧ Is H ss v ∧ Is H lot u ∧ (∀ p ∈ lot, p < ss.length) ∧ lot.length ≤ 1000 ∧ ∀ v' H', Same H H' → Is H' (partOf ss lot) v' → Q v' H'
theorem ok_part_of (B : Bi mg) (d : Df K mg "part_of" "part_of" s_part_of ["steps", "lot"]) : Ok P w K mg base 1 "part_of" ["steps", "lot"] spPart := by
  refine d.ok sc_part_of (fun vs H Q E h => ?_) (fun f cdv A outer s H vs Q E hr h => ?_)
  · obtain ⟨v, u, ss, lot, rfl, _⟩ := h
    rfl
  · obtain ⟨v, u, ss, lot, rfl, hv, hu, inn, hz, q⟩ := h
    refine ⟨_, (pss_one (ps_ret (pe_callTy cr_tupD (by rfl) B.tuple (by decide +kernel) (pa_cons (pe_lc (own := [("place", 2)]) rfl sc_part_of.nd (pi_tup (pv 1)) (blkOk_by (N := ["steps", "lot", "place"]) (sc := defScope s_part_of) (by decide +kernel)) (fun _ _ _ _ _ => (pgn 2 sc_part_of.nd)) (fun _ _ _ _ _ => pts_nil) (fun _ _ _ _ _ => (pe_ix ix_dat (pv 0) (pv 2) (fun _ _ => rfl)))) pa_nil)))), ?_⟩
    obtain ⟨a, xs, rfl, ha, hxs⟩ := dat_tup.mp hu
    have hlen := dats_len hxs
    rw [List.length_map] at hlen
    refine ⟨_, rfl, a, rfl, ⟨xs, SqT.of ha⟩, fun D hD => lc_is walk_tup (fun i => lot[i]?.map (stpAt ss)) (by have := sizeLine_eq; omega) hD (fun H' sm => SqT.of (sm _ _ ha)) (fun i x H' hx sm => ?_) ?_ ?_⟩
    · obtain ⟨dd, g1, g2⟩ := dats_getV hxs hx
      rw [List.getElem?_map] at g1
      obtain ⟨st, hst, rfl⟩ := Option.map_eq_some_iff.mp g1
      rw [hst]
      exact evb_yes
    · intro i x H' b hx sm hb Q' q'
      obtain ⟨dd, g1, g2⟩ := dats_getV hxs hx
      rw [List.getElem?_map] at g1
      obtain ⟨p, hp, rfl⟩ := Option.map_eq_some_iff.mp g1
      rw [hp] at hb
      cases hb
      refine ⟨_, rfl, _, rfl, _, p, enc (stpAt ss p), hv.same sm, is_nat.mp g2, ?_, fun u hu => q' u _ (Same.refl _) hu⟩
      rw [List.getElem?_map, stpAt_get (inn p (List.mem_of_getElem? hp))]
      rfl
    · intro H' sm ls
      have e : xs.length = (lot.map (stpAt ss)).length := by rw [List.length_map]; exact hlen
      rw [e, outs_map (fun i => (List.getElem?_map ..).symm)] at ls
      exact ⟨D, _, rfl, ls, fun v2 H2 s2 h2 => q v2 H2 (sm.trans s2) h2⟩
def spLawPart : Sp := fun vs H Q _ => ∃ (v u : V) (d : Day) (lot : List Nat), vs = [v, u] ∧ Is H d v ∧ Is H lot u ∧ (∀ p ∈ lot, p < d.1.length) ∧ lot.length ≤ 1000 ∧ ∀ v' H', Same H H' → Is H' (notesOf d.1 lot) v' → Q v' H'
theorem ok_law_part (B : Bi mg) (d : Df K mg "_law_part" "_law_part" s__law_part ["_law_day", "_law_lot_here"]) : Ok P w K mg base 1 "_law_part" ["_law_day", "_law_lot_here"] spLawPart := by
  refine d.ok sc__law_part (fun vs H Q E h => ?_) (fun f cdv A outer s H vs Q E hr h => ?_)
  · obtain ⟨v, u, ss, lot, rfl, _⟩ := h
    rfl
  · obtain ⟨v, u, d, lot, rfl, hv, hu, inn, hz, q⟩ := h
    refine ⟨_, (pss_one (ps_ret (pe_callTy cr_tupD (by rfl) B.tuple (by decide +kernel) (pa_cons (pe_lc (own := [("_law_place", 2)]) rfl sc__law_part.nd (pi_tup (pv 1)) (blkOk_by (N := ["_law_day", "_law_lot_here", "_law_place"]) (sc := defScope s__law_part) (by decide +kernel)) (fun _ _ _ _ _ => (pgn 2 sc__law_part.nd)) (fun _ _ _ _ _ => pts_nil) (fun _ _ _ _ _ => (pe_slice sl_dat (pe_ix ix_dat (pe_ix ix_dat (pv 0) pe_int (fun _ _ => rfl)) (pv 2) (fun _ _ => rfl)) po_none (po_some pe_int)))) pa_nil)))), ?_⟩
    obtain ⟨a, xs, rfl, ha, hxs⟩ := dat_tup.mp hu
    have hlen := dats_len hxs
    rw [List.length_map] at hlen
    refine ⟨_, rfl, a, rfl, ⟨xs, SqT.of ha⟩, fun D hD => lc_is walk_tup (fun i => lot[i]?.map (noteAt d.1)) (by have := sizeLine_eq; omega) hD (fun H' sm => SqT.of (sm _ _ ha)) (fun i x H' hx sm => ?_) ?_ ?_⟩
    · obtain ⟨dd, g1, g2⟩ := dats_getV hxs hx
      rw [List.getElem?_map] at g1
      obtain ⟨st, hst, rfl⟩ := Option.map_eq_some_iff.mp g1
      rw [hst]
      exact evb_yes
    · intro i x H' b hx sm hb Q' q'
      obtain ⟨dd, g1, g2⟩ := dats_getV hxs hx
      rw [List.getElem?_map] at g1
      obtain ⟨p, hp, rfl⟩ := Option.map_eq_some_iff.mp g1
      rw [hp] at hb
      cases hb
      refine ⟨_, rfl, _, 0, _, hv.same sm, rfl, rfl, fun v2 h2 => ⟨_, rfl, _, p, enc (stpAt d.1 p), h2, is_nat.mp g2, ?_, fun v3 h3 => ?_⟩⟩
      · rw [List.getElem?_map, stpAt_get (inn p (List.mem_of_getElem? hp))]
        rfl
      · exact ⟨_, rfl, _, 2, h3, rfl, rfl, fun v4 H4 s4 h4 => q' v4 H4 s4 h4⟩
    · intro H' sm ls
      have e : xs.length = (lot.map (noteAt d.1)).length := by rw [List.length_map]; exact hlen
      rw [e, outs_map (fun i => (List.getElem?_map ..).symm)] at ls
      exact ⟨D, _, rfl, ls, fun v2 H2 s2 h2 => q v2 H2 (sm.trans s2) h2⟩
end
end Fd

/-! All steps; the steps with a mark; what shuts. -/
namespace Fd
open PySem PySem.Spec PyProof.Rows L2
open Enc (enc)
abbrev s_all_steps : Stmt := topS 26
theorem sc_all_steps : FnScope ["office", "slips", "answers", "marks", "notes_here", "slip", "answer", "note", "mark"] ["office"] (defScope s_all_steps) := ⟨rfl, rfl, rfl, by decide +kernel, rfl, by decide +kernel, by decide +kernel⟩
abbrev s_steps_with : Stmt := topS 31
theorem sc_steps_with : FnScope ["office", "mark", "step"] ["office", "mark"] (defScope s_steps_with) := ⟨rfl, rfl, rfl, by decide +kernel, rfl, by decide +kernel, by decide +kernel⟩
abbrev s_shuts_with : Stmt := topS 25
theorem sc_shuts_with : FnScope ["office", "standings", "last", "standing"] ["office", "standings", "last"] (defScope s_shuts_with) := ⟨rfl, rfl, rfl, by decide +kernel, rfl, by decide +kernel, by decide +kernel⟩
abbrev s__law_steps : Stmt := topS 56
theorem sc__law_steps : FnScope ["_law_sizes_here", "_law_found", "_law_slip", "_law_answer", "_law_mark"] ["_law_sizes_here"] (defScope s__law_steps) := ⟨rfl, rfl, rfl, by decide +kernel, rfl, by decide +kernel, by decide +kernel⟩
def allSteps (z : Sz) : List Stp := (List.range z.s).flatMap fun s => (List.range z.a).flatMap fun a => (List.range z.m).map fun m => ⟨s, a, m⟩
def notes (z : Sz) : List (Nat × Nat) := (List.range z.s).flatMap fun s => (List.range z.a).map fun a => (s, a)
theorem allSteps_notes (z : Sz) : allSteps z = (notes z).flatMap fun n => (List.range z.m).map fun m => ⟨n.1, n.2, m⟩ := by
  unfold allSteps notes
  rw [List.flatMap_assoc]
  congr 1
  funext s
  rw [List.flatMap_map]
theorem flatMap_len {α β : Type} {xs : List α} {f : α → List β} {k : Nat} (h : ∀ x ∈ xs, (f x).length = k) : (xs.flatMap f).length = xs.length * k := by
  induction xs with
  | nil => simp
  | cons x xs ih =>
    rw [List.flatMap_cons, List.length_append, h x List.mem_cons_self, ih fun y hy => h y (List.mem_cons_of_mem _ hy), List.length_cons, Nat.succ_mul]
    omega
theorem notes_len (z : Sz) : (notes z).length = z.s * z.a := by
  unfold notes
  rw [flatMap_len (k := z.a) (fun x _ => by simp)]
  simp
theorem allSteps_len (z : Sz) : (allSteps z).length = z.s * z.a * z.m := by
  rw [allSteps_notes, flatMap_len (k := z.m) (fun x _ => by simp), notes_len]
structure SzOk (z : Sz) : Prop where
  s : 1 ≤ z.s ∧ z.s ≤ 3
  a : 1 ≤ z.a ∧ z.a ≤ 3
  m : 1 ≤ z.m ∧ z.m ≤ 3
theorem SzOk.len {z : Sz} (h : SzOk z) : (allSteps z).length ≤ 27 := by
  rw [allSteps_len]
  have h1 := h.s
  have h2 := h.a
  have h3 := h.m
  have : z.s * z.a ≤ 3 * 3 := Nat.mul_le_mul h1.2 h2.2
  exact Nat.mul_le_mul this h3.2
theorem PtsOk.z {p : Pts} (h : PtsOk p) : SzOk p.z := ⟨h.s, h.a, h.m⟩
theorem is_eta {α : Type} [Enc α] {H : Hp} {x : α} {v : V} (h : Dat H (enc x) v) : Is H x v := h
section
variable {P : Program} {w : World} {K : PySem.W.Frag} {mg : Str → Option Value} {base : Heap}
def spLawSteps : Sp := fun vs H Q _ => ∃ (v : V) (z : Sz), vs = [v] ∧ Is H z v ∧ SzOk z ∧ ∀ p H', H p = none → Same H H' → Ls H' p (allSteps z) → Q (.ref p) H'
theorem ok_law_steps (B : Bi mg) (d : Df K mg "_law_steps" "_law_steps" s__law_steps ["_law_sizes_here"]) : Ok P w K mg base 1 "_law_steps" ["_law_sizes_here"] spLawSteps := by
  refine d.ok sc__law_steps (fun vs H Q E h => ?_) (fun f cdv A outer s H vs Q E hr h => ?_)
  · obtain ⟨v, z, rfl, _⟩ := h
    rfl
  · obtain ⟨v, z, rfl, hv, zok, q⟩ := h
    refine ⟨_, (pss_cons (pss 1 sc__law_steps.nd (pe_lstD pa_nil))
      (pss_cons (ps_for PassesOwn.never rfl (pi_range1 rfl B.range (pa_cons (pe_ix ix_dat (pv 0) pe_int (fun _ _ => rfl)) pa_nil)) (pgn 2 sc__law_steps.nd)
        (pss_one (ps_for PassesOwn.never rfl (pi_range1 rfl B.range (pa_cons (pe_ix ix_dat (pv 0) pe_int (fun _ _ => rfl)) pa_nil)) (pgn 3 sc__law_steps.nd)
          (pss_one (ps_expr (pe_bm PySem.F.plainAttrs_list PySem.F.slot_list_extend PySem.F.type_list_extend mt_extD (pv 1) (pa_cons (pe_lc (own := [("_law_mark", 4)]) rfl sc__law_steps.nd (pi_range1 rfl B.range (pa_cons (pe_ix ix_dat (pv 0) pe_int (fun _ _ => rfl)) pa_nil)) (blkOk_by (N := ["_law_sizes_here", "_law_found", "_law_slip", "_law_answer", "_law_mark"]) (sc := defScope s__law_steps) (by decide +kernel)) (fun _ _ _ _ _ => (pgn 4 sc__law_steps.nd)) (fun _ _ _ _ _ => pts_nil) (fun _ _ _ _ _ => (pe_tupD (pa_cons (pv 2) (pa_cons (pv 3) (pa_cons (pv 4) pa_nil)))))) pa_nil)))))))
      (pss_one (ps_ret (pv 1))))), ?_⟩
    obtain ⟨z1, z2⟩ := zok.s
    obtain ⟨z3, z4⟩ := zok.a
    obtain ⟨z5, z6⟩ := zok.m
    refine ⟨[], dats_nil, Nat.zero_le _, fun p H1 np a1 l1 => ?_⟩
    have s1 : Same H H1 := a1.same np
    refine ⟨_, rfl, _, 0, _, hv.same s1, rfl, rfl, fun v1 h1 => ?_⟩
    rw [dat_num] at h1
    subst h1
    refine ⟨z.s, rfl, by omega, by omega, ?_⟩
    rw [Int.toNat_natCast]
    refine for_range (lo := 0) (n := z.s) (fun i σ H' => (∃ u2 u3, σ = [some v, some (.ref p), u2, u3, none]) ∧ Same H H' ∧ Ls H' p ((List.range i).flatMap fun s => (List.range z.a).flatMap fun a => (List.range z.m).map fun m => (⟨s, a, m⟩ : Stp))) ⟨⟨none, none, rfl⟩, s1, l1⟩ ?_ ?_
    · rintro i σ H' hi ⟨⟨u2, u3, rfl⟩, sm, ls⟩
      refine ⟨_, rfl, _, 1, _, hv.same sm, rfl, rfl, fun v1 h1 => ?_⟩
      rw [dat_num] at h1
      subst h1
      refine ⟨z.a, rfl, by omega, by omega, ?_⟩
      rw [Int.toNat_natCast]
      refine for_range (lo := 0) (n := z.a) (fun j σ H' => (∃ u3, σ = [some v, some (.ref p), some (.int i), u3, none]) ∧ Same H H' ∧ Ls H' p (((List.range i).flatMap fun s => (List.range z.a).flatMap fun a => (List.range z.m).map fun m => (⟨s, a, m⟩ : Stp)) ++ (List.range j).flatMap fun a => (List.range z.m).map fun m => (⟨i, a, m⟩ : Stp))) ⟨⟨u3, by rw [Int.zero_add]; rfl⟩, sm, ?_⟩ ?_ ?_
      · simpa using ls
      · rintro j σ H2 hj ⟨⟨u3, rfl⟩, sm2, ls2⟩
        obtain ⟨pvs, hpv, _⟩ := id ls2
        refine ⟨_, rfl, .inl ⟨rfl, _, SqL.of hpv⟩, _, rfl, _, 2, _, hv.same sm2, rfl, rfl, fun v1 h1 => ?_⟩
        rw [dat_num] at h1
        subst h1
        refine ⟨z.m, rfl, by omega, by omega, fun D hD => ?_⟩
        rw [Int.toNat_natCast]
        refine lc_is walk_rng (fun k => if k < z.m then some (⟨i, j, k⟩ : Stp) else none) (by rw [rngV_len, sizeLine_eq]; omega) hD (fun _ _ => trivial) (fun k x H3 hx _ => ?_) ?_ ?_
        · rw [if_pos (rngV_get hx).1]
          exact evb_yes
        · intro k x H3 b hx sm3 hb Q' q'
          obtain ⟨hk, rfl⟩ := rngV_get hx
          rw [if_pos hk] at hb
          cases hb
          refine ⟨_, rfl, _, rfl, _, rfl, [.num i, .num j, .num k], dats_cons (dat_num.mpr rfl) (dats_cons (dat_num.mpr (by rw [Int.zero_add])) (dats_cons (dat_num.mpr rfl) dats_nil)), by show 3 ≤ sizeLine; rw [sizeLine_eq]; omega, fun u H4 s4 hu => q' u _ s4 hu⟩
        · intro H3 sm3 ls3
          have e : outs (fun k => if k < z.m then some (⟨i, j, k⟩ : Stp) else none) (rngV z.m).length = (List.range z.m).map fun m => (⟨i, j, m⟩ : Stp) := by
            have e1 : (rngV z.m).length = ((List.range z.m).map fun m => (⟨i, j, m⟩ : Stp)).length := by rw [rngV_len]; simp
            rw [e1]
            refine outs_map fun k => ?_
            by_cases hk : k < z.m
            · rw [if_pos hk, List.getElem?_map, List.getElem?_range hk]
              rfl
            · rw [if_neg hk, List.getElem?_eq_none (by simp; omega)]
          rw [e] at ls3
          refine ⟨p, D, _, _, rfl, rfl, ls2.same sm3, ls3, ?_, fun H4 a4 l4 => ⟨⟨_, rfl⟩, ?_, ?_⟩⟩
          · have g1 := flat_len (out := fun s => (List.range z.a).flatMap fun a => (List.range z.m).map fun m => (⟨s, a, m⟩ : Stp)) (b := 9) (n := i) fun s _ => by
              rw [flatMap_len (k := z.m) (fun x _ => by simp), List.length_range]
              exact Nat.mul_le_mul z4 z6
            have g2 := flat_len (out := fun a => (List.range z.m).map fun m => (⟨i, a, m⟩ : Stp)) (b := 3) (n := j) fun s _ => by
              rw [List.length_map, List.length_range]
              exact z6
            rw [List.length_map, List.length_map, List.length_append, List.length_map, List.length_range, sizeLine_eq]
            omega
          · exact At1.sameOf (sm2.trans sm3) a4 np
          · rw [flat_succ (fun a => (List.range z.m).map fun m => (⟨i, a, m⟩ : Stp)), ← List.append_assoc]
            show Lsd H4 p (List.map enc _)
            rw [List.map_append]
            exact l4
      · rintro σ H2 ⟨⟨u3, rfl⟩, sm2, ls2⟩
        refine ⟨⟨_, _, rfl⟩, sm2, ?_⟩
        rw [flat_succ (fun s => (List.range z.a).flatMap fun a => (List.range z.m).map fun m => (⟨s, a, m⟩ : Stp))]
        exact ls2
    · rintro σ H' ⟨⟨u2, u3, rfl⟩, sm, ls⟩
      exact ⟨_, rfl, q p H' np sm ls⟩
def spAllSteps (P : Program) (w : World) (C : Addr) : Sp := fun vs H Q _ => ∃ (x : Addr) (p : Pts), vs = [.ref x] ∧ Off P w C H x p.z p.mv p.cl ∧ PtsOk p ∧ ∀ l H', H l = none → Same H H' → Ls H' l (allSteps p.z) → Q (.ref l) H'
theorem ok_all_steps {C : Addr} (T : TxtO K mg C) (B : Bi mg) (d : Df K mg "all_steps" "all_steps" s_all_steps ["office"]) : Ok P w K mg base 1 "all_steps" ["office"] (spAllSteps P w C) := by
  refine d.ok sc_all_steps (fun vs H Q E h => ?_) (fun f cdv A outer s H vs Q E hr h => ?_)
  · obtain ⟨x, p, rfl, _⟩ := h
    rfl
  · obtain ⟨x, p, rfl, off, ok, q⟩ := h
    refine ⟨_, (pss_cons (ps_asg (pe_fld (pv 0) rfl) (pg_tupD rfl (pgs_cons (pgn 1 sc_all_steps.nd) (pgs_cons (pgn 2 sc_all_steps.nd) (pgs_cons (pgn 3 sc_all_steps.nd) pgs_nil)))))
      (pss_cons (ps_setLc2 (i := 4) (own := [("slip", 5), ("answer", 6)]) (vs1 := [6]) rfl sc_all_steps.nd rfl rfl (sw_true rfl rfl rfl (by decide +kernel)) (pi_range1 rfl B.range (pa_cons (pv 1) pa_nil)) (blkOk_by (N := ["office", "slips", "answers", "marks", "notes_here", "slip", "answer", "note", "mark"]) (sc := defScope s_all_steps) (by decide +kernel)) (by decide) (fun _ _ _ _ _ => (pgn 5 sc_all_steps.nd)) (fun _ _ _ _ _ => pts_nil) (fun _ _ _ _ _ => (pi_range1 rfl B.range (pa_cons (pv 2) pa_nil))) (fun _ _ _ _ _ => (pgn 6 sc_all_steps.nd)) (fun _ _ _ _ _ => pts_nil) (fun _ _ _ _ _ => (pe_tupD (pa_cons (pv 5) (pa_cons (pv 6) pa_nil)))))
      (pss_one (ps_ret (pe_lc2 (own := [("note", 7), ("mark", 8)]) (vs1 := [8]) rfl sc_all_steps.nd (pi_list (pv 4)) (blkOk_by (N := ["office", "slips", "answers", "marks", "notes_here", "slip", "answer", "note", "mark"]) (sc := defScope s_all_steps) (by decide +kernel)) (by decide) (fun _ _ _ _ _ => (pgn 7 sc_all_steps.nd)) (fun _ _ _ _ _ => pts_nil) (fun _ _ _ _ _ => (pi_range1 rfl B.range (pa_cons (pv 3) pa_nil))) (fun _ _ _ _ _ => (pgn 8 sc_all_steps.nd)) (fun _ _ _ _ _ => pts_nil) (fun _ _ _ _ _ => (pe_op op_catD (pv 7) (pe_tupD (pa_cons (pv 8) pa_nil))))))))), ?_⟩
    obtain ⟨z1, z2⟩ := ok.s
    obtain ⟨z3, z4⟩ := ok.a
    obtain ⟨z5, z6⟩ := ok.m
    obtain ⟨dx, fs, v1, v2, v3, lk, refs, h1, h2, h3, h4, h5, h6, h7, h8, h9, h10, h11⟩ := off.ex
    refine ⟨_, rfl, x, C, dx, fs, v1, rfl, h1, T.cl, T.nS, h2, _, h6, rfl, fun xs hxs => ?_⟩
    obtain ⟨x1, r1, rfl, d1, g1⟩ := dats_of_cons hxs
    obtain ⟨x2, r2, rfl, d2, g2⟩ := dats_of_cons g1
    obtain ⟨x3, r3, rfl, d3, g3⟩ := dats_of_cons g2
    rw [dat_num] at d1 d2 d3
    subst d1 d2 d3
    have g4 := dats_of_nil g3
    subst g4
    refine ⟨_, _, rfl, _, _, rfl, _, _, rfl, rfl, ?_⟩
    refine ⟨_, rfl, p.z.s, rfl, by omega, by omega, fun D hD => ?_⟩
    rw [Int.toNat_natCast]
    refine lc2_is walk_rng (by decide) (fun i => (List.range p.z.a).map fun a => (i, a)) 3 (fun i _ => by rw [List.length_map, List.length_range]; exact z4) (by rw [rngV_len, sizeLine_eq]; omega) hD (fun _ _ => trivial) ?_ ?_
    · intro i y H1 hy s1 _ R r
      obtain ⟨hi, rfl⟩ := rngV_get hy
      refine ⟨_, rfl, p.z.a, rfl, by omega, by omega, r _ _ _ _ (Same.refl _) (by rw [Int.toNat_natCast]; exact walk_rng) (by rw [rngV_len]; simp) (fun _ _ => trivial) fun j y2 H2 c hy2 _ _ hc Q' q' => ?_⟩
      obtain ⟨hj, rfl⟩ := rngV_get hy2
      rw [List.getElem?_map, List.getElem?_range hj] at hc
      cases hc
      exact ⟨_, rfl, _, rfl, [.num i, .num j], dats_cons (dat_num.mpr rfl) (dats_cons (dat_num.mpr rfl) dats_nil), by show 2 ≤ sizeLine; rw [sizeLine_eq]; omega, fun u H4 s4 hu => q' u _ s4 hu⟩
    · intro H1 s1 ls
      have e : (List.range (rngV p.z.s).length).flatMap (fun i => (List.range p.z.a).map fun a => (i, a)) = notes p.z := by rw [rngV_len]; rfl
      rw [e] at ls
      obtain ⟨vs, hvs, hd⟩ := id ls
      have hlen := dats_len hd
      rw [List.length_map] at hlen
      have n9 : (notes p.z).length ≤ 9 := by
        rw [notes_len]
        exact Nat.mul_le_mul z2 z4
      refine ⟨_, rfl, D, rfl, ⟨vs, SqL.of hvs⟩, fun D2 hD2 => ?_⟩
      refine lc2_is walk_list (by decide) (fun i => (List.range p.z.m).map fun m => (⟨((notes p.z).getD i (0, 0)).1, ((notes p.z).getD i (0, 0)).2, m⟩ : Stp)) 3 (fun i _ => by rw [List.length_map, List.length_range]; exact z6) (by rw [sizeLine_eq]; omega) hD2 (fun H2 s2 => SqL.of (s2 _ _ hvs)) ?_ ?_
      · intro i y H2 hy s2 _ R r
        obtain ⟨dd, k1, k2⟩ := dats_getV hd hy
        rw [List.getElem?_map] at k1
        obtain ⟨n, hn, rfl⟩ := Option.map_eq_some_iff.mp k1
        have en : (notes p.z).getD i (0, 0) = n := by rw [List.getD_eq_getElem?_getD, hn]; rfl
        refine ⟨_, rfl, p.z.m, rfl, by omega, by omega, r _ _ _ _ (Same.refl _) (by rw [Int.toNat_natCast]; exact walk_rng) (by rw [rngV_len]; simp) (fun _ _ => trivial) fun j y2 H3 c hy2 s3 _ hc Q' q' => ?_⟩
        obtain ⟨hj, rfl⟩ := rngV_get hy2
        have hc2 : ((List.range p.z.m).map fun m => (⟨((notes p.z).getD i (0, 0)).1, ((notes p.z).getD i (0, 0)).2, m⟩ : Stp))[j]? = some c := hc
        rw [en, List.getElem?_map, List.getElem?_range hj] at hc2
        cases hc2
        refine ⟨_, rfl, _, rfl, [.num j], dats_cons (dat_num.mpr rfl) dats_nil, by show 1 ≤ sizeLine; rw [sizeLine_eq]; omega, fun u H4 s4 hu => ?_⟩
        exact ⟨_, _, (k2.same s3).same s4, hu, by show 2 + 1 ≤ sizeLine; rw [sizeLine_eq]; omega, fun u2 H5 s5 hu2 => q' u2 _ (s4.trans s5) hu2⟩
      · intro H2 s2 ls2
        have e2 : (List.range vs.length).flatMap (fun i => (List.range p.z.m).map fun m => (⟨((notes p.z).getD i (0, 0)).1, ((notes p.z).getD i (0, 0)).2, m⟩ : Stp)) = allSteps p.z := by
          rw [hlen, allSteps_notes]
          refine flat_get fun i n hn => ?_
          rw [List.getD_eq_getElem?_getD, hn]
          rfl
        rw [e2] at ls2
        exact q D2 H2 (s1.free hD2) (s1.trans s2) ls2
end
end Fd

/-! Lists in rising order. -/
namespace Fd
theorem up_unique : ∀ {xs ys : List Int}, xs.Pairwise (· < ·) → ys.Pairwise (· < ·) → (∀ k, k ∈ xs ↔ k ∈ ys) → xs = ys
  | [], [], _, _, _ => rfl
  | [], y :: ys, _, _, h => by
    have := (h y).mpr List.mem_cons_self
    cases this
  | x :: xs, [], _, _, h => by
    have := (h x).mp List.mem_cons_self
    cases this
  | x :: xs, y :: ys, hx, hy, h => by
    rw [List.pairwise_cons] at hx hy
    have e : x = y := by
      have h1 := (h x).mp List.mem_cons_self
      have h2 := (h y).mpr List.mem_cons_self
      rcases List.mem_cons.mp h1 with h1 | h1
      · exact h1
      · rcases List.mem_cons.mp h2 with h2 | h2
        · exact h2.symm
        · have a := hx.1 y h2
          have b := hy.1 x h1
          omega
    subst e
    have e2 : xs = ys := up_unique hx.2 hy.2 fun k => by
      constructor
      · intro hk
        have := (h k).mp (List.mem_cons_of_mem _ hk)
        rcases List.mem_cons.mp this with e | g
        · have := hx.1 k hk
          omega
        · exact g
      · intro hk
        have := (h k).mpr (List.mem_cons_of_mem _ hk)
        rcases List.mem_cons.mp this with e | g
        · have := hy.1 k hk
          omega
        · exact g
    rw [e2]
theorem cast_up {xs : List Nat} (h : xs.Pairwise (· < ·)) : (xs.map fun g : Nat => ((g : Nat) : Int)).Pairwise (· < ·) := by
  rw [List.pairwise_map]
  exact h.imp fun h => by omega
theorem inc_up (n : Nat) (f : Nat → Bool) : ((List.range n).filter f).Pairwise (· < ·) := List.Pairwise.filter _ List.pairwise_lt_range
theorem inc_eq {ys : List Int} {n : Nat} {f : Nat → Bool} (hp : ys.Pairwise (· < ·)) (hm : ∀ k : Int, k ∈ ys ↔ ∃ g : Nat, g < n ∧ f g = true ∧ k = g) : ys = ((List.range n).filter f).map fun g : Nat => ((g : Nat) : Int) := by
  refine up_unique hp (cast_up (inc_up n f)) fun k => ?_
  rw [hm k, List.mem_map]
  constructor
  · rintro ⟨g, h1, h2, rfl⟩
    exact ⟨g, List.mem_filter.mpr ⟨List.mem_range.mpr h1, h2⟩, rfl⟩
  · rintro ⟨g, h1, rfl⟩
    obtain ⟨h2, h3⟩ := List.mem_filter.mp h1
    exact ⟨g, List.mem_range.mp h2, h3, rfl⟩
theorem nodup_small {xs : List Nat} {n : Nat} (h : xs.Nodup) (hn : ∀ x ∈ xs, x < n) : xs.length ≤ n := by
  have := h.length_le_of_subset (l₂ := List.range n) fun x hx => List.mem_range.mpr (hn x hx)
  simpa using this
/-- a sorted permutation of what has no double -/
theorem perm_up {ys : List Int} {ks : List Int} (p : ys.Perm ks) (h : ys.Pairwise (· ≤ ·)) (n : ks.Nodup) : ys.Pairwise (· < ·) := by
  have ny : ys.Nodup := p.nodup_iff.mpr n
  rw [List.Nodup] at ny
  exact (List.Pairwise.and h ny).imp fun ⟨a, b⟩ => by omega
theorem cast_nodup {ks : List Nat} (h : ks.Nodup) : (ks.map fun g : Nat => ((g : Nat) : Int)).Nodup := by
  rw [List.Nodup, List.pairwise_map]
  exact List.Pairwise.imp (fun a b => a (by omega)) h
end Fd

/-! Where a step leads. -/
namespace Fd
open PySem PySem.Spec PyProof.Rows L2
open Enc (enc)
abbrev s_goals_of : Stmt := topS 24
theorem sc_goals_of : FnScope ["office", "standings", "step", "found", "standing", "goal"] ["office", "standings", "step"] (defScope s_goals_of) := ⟨rfl, rfl, rfl, by decide +kernel, rfl, by decide +kernel, by decide +kernel⟩
abbrev s__law_goals : Stmt := topS 57
theorem sc__law_goals : FnScope ["_law_parts_here", "_law_standings", "_law_step", "_law_found", "_law_standing", "_law_move"] ["_law_parts_here", "_law_standings", "_law_step"] (defScope s__law_goals) := ⟨rfl, rfl, rfl, by decide +kernel, rfl, by decide +kernel, by decide +kernel⟩
abbrev s__law_lasts : Stmt := topS 58
theorem sc__law_lasts : FnScope ["_law_parts_here", "_law_standings", "_law_found", "_law_standing"] ["_law_parts_here", "_law_standings"] (defScope s__law_lasts) := ⟨rfl, rfl, rfl, by decide +kernel, rfl, by decide +kernel, by decide +kernel⟩
def goalsOf (p : Pts) (S : List Nat) (st : Stp) : List Nat := (List.range p.mv.length).filter fun g => S.any fun q => decide (g ∈ goalsAt (p.mv.getD q []) st)
def lastsOf (p : Pts) (S : List Nat) : List Nat := (List.range p.z.m).filter fun l => S.any fun q => decide (l ∈ p.cl.getD q [])
theorem goalsAt_fm (row : List Mv) (st : Stp) : goalsAt row st = row.filterMap fun m => if m.stp = st then some m.g else none := by
  unfold goalsAt
  induction row with
  | nil => rfl
  | cons m row ih =>
    by_cases h : m.stp = st
    · simp only [List.filter_cons, h, decide_true, if_true, List.map_cons, List.filterMap_cons]
      rw [ih]
    · simp only [List.filter_cons, h, decide_false, List.filterMap_cons, if_false]
      exact ih
theorem goalsAt_lt {p : Pts} (ok : PtsOk p) {q g : Nat} {st : Stp} (h : g ∈ goalsAt (p.mv.getD q []) st) : g < p.mv.length := by
  unfold goalsAt at h
  obtain ⟨m, hm, rfl⟩ := List.mem_map.mp h
  have hm2 := (List.mem_filter.mp hm).1
  rw [List.getD_eq_getElem?_getD] at hm2
  cases e : p.mv[q]? with
  | none =>
    rw [e] at hm2
    cases hm2
  | some row =>
    rw [e] at hm2
    exact ((ok.mv.2 row (List.mem_of_getElem? e)).1 m hm2).2.2.2
theorem lasts_lt {p : Pts} (ok : PtsOk p) {q l : Nat} (h : l ∈ p.cl.getD q []) : l < p.z.m := by
  rw [List.getD_eq_getElem?_getD] at h
  cases e : p.cl[q]? with
  | none =>
    rw [e] at h
    cases h
  | some row =>
    rw [e] at h
    exact (ok.cl row (List.mem_of_getElem? e)).2.1 l h
theorem getD_get {α : Type} {xs : List α} {d : α} {i : Nat} (h : i < xs.length) : xs[i]? = some (xs.getD i d) := by
  rw [List.getD_eq_getElem?_getD, List.getElem?_eq_getElem h]
  rfl
theorem goals_eq {p : Pts} (ok : PtsOk p) {S : List Nat} {st : Stp} {ys : List Int} (hp : ys.Pairwise (· < ·)) (hm : ∀ k : Int, k ∈ ys ↔ ∃ g : Nat, k = g ∧ ∃ q ∈ S, g ∈ goalsAt (p.mv.getD q []) st) :
    ys = (goalsOf p S st).map fun g : Nat => ((g : Nat) : Int) := by
  refine inc_eq hp fun k => ?_
  rw [hm k]
  constructor
  · rintro ⟨g, rfl, q, h1, h2⟩
    exact ⟨g, goalsAt_lt ok h2, List.any_eq_true.mpr ⟨q, h1, decide_eq_true h2⟩, rfl⟩
  · rintro ⟨g, _, h2, rfl⟩
    obtain ⟨q, h3, h4⟩ := List.any_eq_true.mp h2
    exact ⟨g, rfl, q, h3, of_decide_eq_true h4⟩
theorem lasts_eq {p : Pts} (ok : PtsOk p) {S : List Nat} {ys : List Int} (hp : ys.Pairwise (· < ·)) (hm : ∀ k : Int, k ∈ ys ↔ ∃ g : Nat, k = g ∧ ∃ q ∈ S, g ∈ p.cl.getD q []) :
    ys = (lastsOf p S).map fun g : Nat => ((g : Nat) : Int) := by
  refine inc_eq hp fun k => ?_
  rw [hm k]
  constructor
  · rintro ⟨g, rfl, q, h1, h2⟩
    exact ⟨g, lasts_lt ok h2, List.any_eq_true.mpr ⟨q, h1, decide_eq_true h2⟩, rfl⟩
  · rintro ⟨g, _, h2, rfl⟩
    obtain ⟨q, h3, h4⟩ := List.any_eq_true.mp h2
    exact ⟨g, rfl, q, h3, of_decide_eq_true h4⟩
theorem lsd_ints {H : Hp} {p : Addr} {xs : List Nat} (h : H p = some (.lst ((xs.map fun g : Nat => ((g : Nat) : Int)).map V.int))) : Ls H p xs := by
  refine ⟨_, h, ?_⟩
  rw [nums_map]
  exact dats_ints _
theorem ls_ints {H : Hp} {p : Addr} {xs : List Nat} (h : Ls H p xs) : H p = some (.lst ((xs.map fun g : Nat => ((g : Nat) : Int)).map V.int)) := by
  obtain ⟨vs, e, d⟩ := h
  rw [nums_map] at d
  rw [e, dats_nums d]
def kI (n : Nat) : Key := Sum.inl (n : Int)
theorem kI_inj {m n : Nat} (h : kI m = kI n) : m = n := by
  injection h with h
  omega
theorem keys_put {kvs : List (Key × V)} {ks : List Nat} (h : kvs.map (·.1) = ks.map kI) (g : Nat) (v : V) : (putK kvs (kI g) v).map (·.1) = (if g ∈ ks then ks else ks ++ [g]).map kI := by
  have hm : (kvs.any fun kv => decide (kv.1 = kI g)) = decide (g ∈ ks) := by
    rw [Bool.eq_iff_iff, List.any_eq_true, decide_eq_true_iff]
    constructor
    · rintro ⟨kv, h1, h2⟩
      have : kv.1 ∈ ks.map kI := h ▸ List.mem_map_of_mem h1
      obtain ⟨n, h3, h4⟩ := List.mem_map.mp this
      have e : n = g := kI_inj (h4.trans (of_decide_eq_true h2))
      exact e ▸ h3
    · intro h1
      have : kI g ∈ kvs.map (·.1) := h ▸ List.mem_map_of_mem h1
      obtain ⟨kv, h3, h4⟩ := List.mem_map.mp this
      exact ⟨kv, h3, decide_eq_true h4⟩
  unfold putK
  rw [hm]
  by_cases e : g ∈ ks
  · rw [if_pos (decide_eq_true e), if_pos e, ← h, List.map_map]
    refine List.map_congr_left fun kv _ => ?_
    show (if kv.1 = kI g then (kv.1, v) else kv).1 = kv.1
    split <;> rfl
  · rw [if_neg (by rw [decide_eq_false e]; exact Bool.false_ne_true), if_neg e, List.map_append, List.map_append, h]
    rfl
section
variable {P : Program} {w : World} {K : PySem.W.Frag} {mg : Str → Option Value} {base : Heap}
def spGoals (P : Program) (w : World) (C : Addr) : Sp := fun vs H Q _ => ∃ (x : Addr) (v u : V) (p : Pts) (S : List Nat) (st : Stp), vs = [.ref x, v, u] ∧ Off P w C H x p.z p.mv p.cl ∧ PtsOk p ∧ Is H S v ∧ Is H st u ∧ (∀ q ∈ S, q < p.mv.length) ∧
  ∀ v' H', Same H H' → Is H' (goalsOf p S st) v' → Q v' H'
theorem ok_goals_of {C : Addr} (T : TxtO K mg C) (B : Bi mg) (d : Df K mg "goals_of" "goals_of" s_goals_of ["office", "standings", "step"]) : Ok P w K mg base 1 "goals_of" ["office", "standings", "step"] (spGoals P w C) := by
  refine d.ok sc_goals_of (fun vs H Q E h => ?_) (fun f cdv A outer s H vs Q E hr h => ?_)
  · obtain ⟨x, v, u, p, S, st, rfl, _⟩ := h
    rfl
  · obtain ⟨x, v, u, p, S, st, rfl, off, ok, hS, hst, hq, q⟩ := h
    refine ⟨_, (pss_cons (pss 3 sc_goals_of.nd pe_dnewK)
      (pss_cons (ps_for PassesOwn.never rfl (pi_tup (pv 1)) (pgn 4 sc_goals_of.nd)
        (pss_one (ps_for PassesOwn.never rfl (pi_list (pe_get2N hr.units (pe_ix ix_list (pe_fld (pv 0) rfl) (pv 4) (fun _ _ => rfl)) (pv 2) (pe_lstD pa_nil) ⟨rfl, rfl, rfl, rfl⟩)) (pgn 5 sc_goals_of.nd)
          (pss_one (ps_dput (hu_of hr) (pv 3) (pv 5) pe_bl rfl)))))
      (pss_one (ps_ret (pe_callTy cr_tupD (by rfl) B.tuple (by decide +kernel) (pa_cons (pe_callB (call_sortedDI rfl) (by rfl) B.sorted (by decide +kernel) (pa_cons (pv 3) pa_nil)) pa_nil)))))), ?_⟩
    refine fun d nd => ?_
    have s1 : Same H (upd H d (.dK [])) := same_new nd
    obtain ⟨a, xs, rfl, ha, hxs⟩ := dat_tup.mp hS
    have hlen := dats_len hxs
    rw [List.length_map] at hlen
    refine ⟨_, rfl, a, rfl, ⟨xs, SqT.of (s1 _ _ ha)⟩, for_tup (xs := xs) (fun i σ H' => (∃ u4 u5, σ = [some (.ref x), some (.ref a), some u, some (.ref d), u4, u5]) ∧ Same H H' ∧ ∃ (kvs : List (Key × V)) (ks : List Nat), H' d = some (.dK kvs) ∧ kvs.map (·.1) = ks.map kI ∧ ks.Nodup ∧ ∀ g, g ∈ ks ↔ ∃ q ∈ S.take i, g ∈ goalsAt (p.mv.getD q []) st)
      ⟨⟨none, none, rfl⟩, s1, [], [], upd_same, rfl, List.nodup_nil, fun g => ⟨fun z => (nomatch z), fun ⟨q, z, _⟩ => (nomatch z)⟩⟩ (fun i σ H' _ p => SqT.of (p.2.1 _ _ ha)) ?_ ?_⟩
    · rintro i y σ H1 hy ⟨⟨u4, u5, rfl⟩, sm, kvs, ks, hd, hk, nk, mem⟩
      obtain ⟨dd, g1, g2⟩ := dats_getV hxs hy
      rw [List.getElem?_map] at g1
      obtain ⟨n, hn, rfl⟩ := Option.map_eq_some_iff.mp g1
      have hy' : y = .int n := is_nat.mp g2
      subst hy'
      have hnlt := hq n (List.mem_of_getElem? hn)
      obtain ⟨dx, fs, v1, v2, v3, lk, refs, h1, h2, h3, h4, h5, h6, h7, h8, h9, h10, h11⟩ := (off.same sm).ex
      obtain ⟨dg, hdg, kvg, Dg, lg, each⟩ := h11 n (p.mv.getD n []) (getD_get hnlt)
      refine ⟨_, rfl, x, C, dx, fs, _, rfl, h1, T.cl, T.nK, h5, _, rfl, lk, refs, n, _, rfl, rfl, SqL.of h9, atI_nat hdg, ?_⟩
      refine ⟨dg, rfl, ⟨kvg, Dg⟩, _, rfl, ?_⟩
      refine ⟨[], dats_nil, Nat.zero_le _, fun e0 H2 ne0 a2 l2 => ?_⟩
      have s2 : Same H1 H2 := a2.same ne0
      refine ⟨kvg, _, Dg.same s2, (hst.same sm).same s2, okd st, ?_⟩
      have tk : S.take (i + 1) = S.take i ++ [n] := by
        rw [List.take_succ, hn]
        rfl
      obtain ⟨l, gs, hval, eg, hl⟩ : ∃ (l : Addr) (gs : List Nat), (valV kvg (NestedKey.tup [.num st.s, .num st.a, .num st.m])).getD (.ref e0) = V.ref l ∧ gs = goalsAt (p.mv.getD n []) st ∧ Ls H2 l gs := by
        rcases each st with ⟨e1, e2⟩ | ⟨l, e1, e2⟩
        · rw [show valV kvg (NestedKey.tup [.num st.s, .num st.a, .num st.m]) = none from e1]
          exact ⟨e0, [], rfl, e2.symm, l2⟩
        · rw [show valV kvg (NestedKey.tup [.num st.s, .num st.a, .num st.m]) = some (.ref l) from e1]
          exact ⟨l, _, rfl, rfl, e2.same s2⟩
      obtain ⟨ws, hws, hwd⟩ := id hl
      have hwl := dats_len hwd
      rw [List.length_map] at hwl
      refine ⟨l, hval, ⟨ws, SqL.of hws⟩, for_list (xs := ws) (fun j σ H' => (∃ u5, σ = [some (.ref x), some (.ref a), some u, some (.ref d), some (.int n), u5]) ∧ Same H H' ∧ Sd d H2 H' ∧ ∃ (kvs : List (Key × V)) (ks : List Nat), H' d = some (.dK kvs) ∧ kvs.map (·.1) = ks.map kI ∧ ks.Nodup ∧ ∀ g, g ∈ ks ↔ ((∃ q ∈ S.take i, g ∈ goalsAt (p.mv.getD q []) st) ∨ g ∈ gs.take j))
        ⟨⟨u5, rfl⟩, sm.trans s2, Sd.refl _, kvs, ks, s2 _ _ hd, hk, nk, fun g => by rw [mem g]; simp⟩ (fun j σ H' _ p => ?_) ?_ ?_⟩
      · refine SqL.of (p.2.2.1 _ _ hws fun z => ?_)
        rw [z, s2 _ _ hd] at hws
        cases hws
      · rintro j y σ H3 hy3 ⟨⟨u5, rfl⟩, sm3, sd3, kvs3, ks3, hd3, hk3, nk3, mem3⟩
        obtain ⟨dd3, k1, k2⟩ := dats_getV hwd hy3
        rw [List.getElem?_map] at k1
        obtain ⟨g0, hg0, rfl⟩ := Option.map_eq_some_iff.mp k1
        have hy' : y = .int g0 := is_nat.mp k2
        subst hy'
        have lt6 : ks3.length ≤ p.mv.length := nodup_small nk3 fun g hg => by
          rcases (mem3 g).mp hg with ⟨q, _, hg⟩ | hg
          · exact goalsAt_lt ok hg
          · exact goalsAt_lt ok (eg ▸ List.mem_of_mem_take hg)
        have lk : kvs3.length = ks3.length := by
          have := congrArg List.length hk3
          simpa using this
        have l6 := ok.mv.1.2
        refine ⟨_, rfl, _, rfl, d, _, rfl, DPut.k (k := kI g0) hd3 (by rw [sizeLine_eq]; omega), ⟨_, rfl⟩, ?_, sd3.trans sd_upd, _, (if g0 ∈ ks3 then ks3 else ks3 ++ [g0]), upd_same, keys_put hk3 g0 _, ?_, fun g => ?_⟩
        · exact At1.sameOf sm3 at1_upd nd
        · by_cases z : g0 ∈ ks3
          · rw [if_pos z]
            exact nk3
          · rw [if_neg z, List.nodup_append]
            refine ⟨nk3, by simp, fun a ha b hb => ?_⟩
            rw [List.mem_singleton] at hb
            subst hb
            exact fun e => z (e ▸ ha)
        · have tk2 : gs.take (j + 1) = gs.take j ++ [g0] := by
            rw [List.take_succ, hg0]
            rfl
          rw [tk2, List.mem_append, List.mem_singleton]
          by_cases z : g0 ∈ ks3
          · rw [if_pos z, mem3 g]
            constructor
            · rintro (h | h)
              · exact .inl h
              · exact .inr (.inl h)
            · rintro (h | h | h)
              · exact .inl h
              · exact .inr h
              · exact h ▸ (mem3 g0).mp z
          · rw [if_neg z, List.mem_append, List.mem_singleton, mem3 g, or_assoc]
      · rintro σ H3 ⟨⟨u5, rfl⟩, sm3, sd3, kvs3, ks3, hd3, hk3, nk3, mem3⟩
        refine ⟨⟨_, _, rfl⟩, sm3, kvs3, ks3, hd3, hk3, nk3, fun g => ?_⟩
        rw [mem3 g, hwl, List.take_length, tk, eg]
        constructor
        · rintro (⟨q, h1, h2⟩ | h)
          · exact ⟨q, List.mem_append_left _ h1, h2⟩
          · exact ⟨n, List.mem_append_right _ List.mem_cons_self, h⟩
        · rintro ⟨q, h1, h2⟩
          rcases List.mem_append.mp h1 with h1 | h1
          · exact .inl ⟨q, h1, h2⟩
          · rw [List.mem_singleton] at h1
            exact .inr (h1 ▸ h2)
    · rintro σ H1 ⟨⟨u4, u5, rfl⟩, sm, kvs, ks, hd, hk, nk, mem⟩
      rw [hlen, List.take_length] at mem
      have lt6 : ks.length ≤ p.mv.length := nodup_small nk fun g hg => by
        obtain ⟨q, _, hg⟩ := (mem g).mp hg
        exact goalsAt_lt ok hg
      have l6 := ok.mv.1.2
      refine ⟨_, rfl, d, kvs, ks.map fun n : Nat => ((n : Nat) : Int), rfl, Rd.of hd, by rw [hk, List.map_map]; rfl, by rw [List.length_map]; omega, fun ys p2 perm srt np2 => ?_⟩
      have e := goals_eq ok (S := S) (st := st) (perm_up perm srt (cast_nodup nk)) fun k => by
        rw [perm.mem_iff, List.mem_map]
        constructor
        · rintro ⟨g, h1, rfl⟩
          exact ⟨g, rfl, (mem g).mp h1⟩
        · rintro ⟨g, rfl, h1⟩
          exact ⟨g, (mem g).mpr h1, rfl⟩
      subst e
      exact ⟨p2, _, rfl, lsd_ints upd_same, fun v' H' s' hv' => q v' H' ((sm.trans (same_new np2)).trans s') hv'⟩
end
end Fd

/-! Where a step leads (2). -/
namespace Fd
open PySem PySem.Spec PyProof.Rows L2
open Enc (enc)
theorem take_snoc {α : Type} {xs : List α} {i : Nat} {x : α} (h : xs[i]? = some x) : xs.take (i + 1) = xs.take i ++ [x] := by
  rw [List.take_succ, h]
  rfl
theorem flat_take {α β : Type} (f : α → List β) {xs : List α} {i : Nat} {x : α} (h : xs[i]? = some x) : (xs.take (i + 1)).flatMap f = (xs.take i).flatMap f ++ f x := by
  rw [take_snoc h, List.flatMap_append]
  simp
theorem flat_le {α β : Type} {f : α → List β} {b : Nat} : ∀ {xs : List α}, (∀ x ∈ xs, (f x).length ≤ b) → (xs.flatMap f).length ≤ xs.length * b
  | [], _ => Nat.zero_le _
  | x :: xs, h => by
    rw [List.flatMap_cons, List.length_append, List.length_cons, Nat.succ_mul]
    have h1 := h x List.mem_cons_self
    have h2 := flat_le (xs := xs) fun y hy => h y (List.mem_cons_of_mem _ hy)
    omega
theorem lsd_nd {H : Hp} {p : Addr} {ds : List D} (h : Lsd H p ds) : ∃ vs, H p = some (HO.lst vs) := by
  obtain ⟨vs, e, _⟩ := h
  exact ⟨vs, e⟩
section
variable {P : Program} {w : World} {K : PySem.W.Frag} {mg : Str → Option Value} {base : Heap}
theorem row_len {p : Pts} (ok : PtsOk p) (q : Nat) : (p.mv.getD q []).length ≤ 6 := by
  rw [List.getD_eq_getElem?_getD]
  cases e : p.mv[q]? with
  | none => exact Nat.zero_le _
  | some row => exact (ok.mv.2 row (List.mem_of_getElem? e)).2.2
theorem cl_len {p : Pts} (ok : PtsOk p) (q : Nat) : (p.cl.getD q []).length ≤ 2 := by
  rw [List.getD_eq_getElem?_getD]
  cases e : p.cl[q]? with
  | none => exact Nat.zero_le _
  | some row => exact (ok.cl row (List.mem_of_getElem? e)).2.2
theorem goalsAt_len (row : List Mv) (st : Stp) : (goalsAt row st).length ≤ row.length := by
  unfold goalsAt
  rw [List.length_map]
  exact List.length_filter_le _ _
def spLawGoals : Sp := fun vs H Q _ => ∃ (hv v u : V) (p : Pts) (S : List Nat) (st : Stp), vs = [hv, v, u] ∧ Is H p hv ∧ PtsOk p ∧ Is H S v ∧ Is H st u ∧ (∀ q ∈ S, q < p.mv.length) ∧ S.length ≤ 6 ∧
  ∀ v' H', Same H H' → Is H' (goalsOf p S st) v' → Q v' H'
theorem ok_law_goals (B : Bi mg) (d : Df K mg "_law_goals" "_law_goals" s__law_goals ["_law_parts_here", "_law_standings", "_law_step"]) : Ok P w K mg base 1 "_law_goals" ["_law_parts_here", "_law_standings", "_law_step"] spLawGoals := by
  refine d.ok sc__law_goals (fun vs H Q E h => ?_) (fun f cdv A outer s H vs Q E hr h => ?_)
  · obtain ⟨x, v, u, p, S, st, rfl, _⟩ := h
    rfl
  · obtain ⟨hv, v, u, p, S, st, rfl, hp, ok, hS, hst, hq, h6, q⟩ := h
    refine ⟨_, (pss_cons (pss 3 sc__law_goals.nd (pe_lstD pa_nil))
      (pss_cons (ps_for PassesOwn.never rfl (pi_tup (pv 1)) (pgn 4 sc__law_goals.nd)
        (pss_one (ps_expr (pe_bm PySem.F.plainAttrs_list PySem.F.slot_list_extend PySem.F.type_list_extend mt_extD (pv 3) (pa_cons (pe_lc (own := [("_law_move", 5)]) rfl sc__law_goals.nd (pi_tup (pe_ix ix_dat (pe_ix ix_dat (pv 0) pe_int (fun _ _ => rfl)) (pv 4) (fun _ _ => rfl))) (blkOk_by (N := ["_law_parts_here", "_law_standings", "_law_step", "_law_found", "_law_standing", "_law_move"]) (sc := defScope s__law_goals) (by decide +kernel)) (fun _ _ _ _ _ => (pgn 5 sc__law_goals.nd)) (fun _ _ _ _ _ => (pts_one (pt_cmpR (op_eqN hr.units) (pe_slice sl_dat (pv 5) po_none (po_some pe_int)) (pv 2) (nomark _)))) (fun _ _ _ _ _ => (pe_ix ix_dat (pv 5) pe_int (fun _ _ => rfl)))) pa_nil)))))
      (pss_one (ps_ret (pe_callTy cr_tupD (by rfl) B.tuple (by decide +kernel) (pa_cons (pe_callB (cr_sortedSet rfl) (by rfl) B.sorted (by decide +kernel) (pa_cons (pe_callTy (cr_setI rfl) (by rfl) B.set (by decide +kernel) (pa_cons (pv 3) pa_nil)) pa_nil)) pa_nil)))))), ?_⟩
    refine ⟨[], dats_nil, Nat.zero_le _, fun l H1 nl a1 l1 => ?_⟩
    have s1 : Same H H1 := a1.same nl
    obtain ⟨a, xs, rfl, ha, hxs⟩ := dat_tup.mp hS
    have hlen := dats_len hxs
    rw [List.length_map] at hlen
    refine ⟨_, rfl, a, rfl, ⟨xs, SqT.of (s1 _ _ ha)⟩, for_tup (xs := xs) (fun i σ H' => (∃ u4, σ = [some hv, some (.ref a), some u, some (.ref l), u4, none]) ∧ Same H H' ∧ Ls H' l ((S.take i).flatMap fun q => goalsAt (p.mv.getD q []) st))
      ⟨⟨none, rfl⟩, s1, l1⟩ (fun i σ H' _ p => SqT.of (p.2.1 _ _ ha)) ?_ ?_⟩
    · rintro i y σ H1 hy ⟨⟨u4, rfl⟩, sm, ls⟩
      obtain ⟨dd, g1, g2⟩ := dats_getV hxs hy
      rw [List.getElem?_map] at g1
      obtain ⟨n, hn, rfl⟩ := Option.map_eq_some_iff.mp g1
      have hy' : y = .int n := is_nat.mp g2
      subst hy'
      have hnlt := hq n (List.mem_of_getElem? hn)
      obtain ⟨lvs, hlv⟩ := lsd_nd ls
      refine ⟨_, rfl, .inl ⟨rfl, _, SqL.of hlv⟩, _, rfl, _, 1, _, hp.same sm, rfl, rfl, fun v1 h1 => ⟨_, rfl, _, n, enc (p.mv.getD n []), h1, rfl, ?_, fun v2 h2 => ?_⟩⟩
      · rw [List.getElem?_map, getD_get hnlt]
        rfl
      obtain ⟨b, ys, rfl, hb, hys⟩ := dat_tup.mp h2
      have hl2 := dats_len hys
      rw [List.length_map] at hl2
      have r6 := row_len ok n
      refine ⟨b, rfl, ⟨ys, SqT.of hb⟩, fun D hD => lc_is walk_tup (fun j => (p.mv.getD n [])[j]?.bind fun m => if m.stp = st then some m.g else none) (by have := sizeLine_eq; omega) hD (fun H' sm => SqT.of (sm _ _ hb)) (fun j y2 H2 hy2 s2 => ?_) ?_ ?_⟩
      · obtain ⟨dm, k1, k2⟩ := dats_getV hys hy2
        rw [List.getElem?_map] at k1
        obtain ⟨m, hm, rfl⟩ := Option.map_eq_some_iff.mp k1
        rw [hm]
        intro Q' q'
        refine ⟨_, rfl, _, rfl, _, 3, k2.same s2, rfl, rfl, fun v4 H4 s4 h4 => ⟨_, rfl, enc m.stp, enc st, h4, (((hst.same sm).same s2).same s4), okd _, okd _, _, rfl, ?_⟩⟩
        have e : decide (enc m.stp = enc st) = ((some m : Option Mv).bind fun m => if m.stp = st then some m.g else none).isSome := by
          show _ = (if m.stp = st then some m.g else none).isSome
          by_cases h : m.stp = st
          · rw [decide_eq_true (enc_eq.mpr h), if_pos h]
            rfl
          · rw [decide_eq_false (fun z => h (enc_eq.mp z)), if_neg h]
            rfl
        show Q' (decide (enc m.stp = enc st)) H4
        rw [e]
        exact q' _ s4
      · intro j y2 H2 g hy2 s2 hg Q' q'
        obtain ⟨dm, k1, k2⟩ := dats_getV hys hy2
        rw [List.getElem?_map] at k1
        obtain ⟨m, hm, rfl⟩ := Option.map_eq_some_iff.mp k1
        rw [hm] at hg
        have hg2 : (if m.stp = st then some m.g else none) = some g := hg
        by_cases h : m.stp = st
        · rw [if_pos h] at hg2
          cases hg2
          exact ⟨_, rfl, _, 3, _, k2.same s2, rfl, rfl, fun v5 h5 => q' v5 _ (Same.refl _) h5⟩
        · rw [if_neg h] at hg2
          cases hg2
      · intro H2 s2 ls2
        have e : ys.length = (p.mv.getD n []).length := hl2
        rw [e, outs_filterMap (fun _ => rfl), ← goalsAt_fm] at ls2
        refine ⟨l, D, _, _, rfl, rfl, ls.same s2, ls2, ?_, fun H3 a3 l3 => ⟨⟨_, rfl⟩, At1.sameOf (sm.trans s2) a3 nl, ?_⟩⟩
        · rw [List.length_map, List.length_map, sizeLine_eq]
          have c1 := flat_le (f := fun q => goalsAt (p.mv.getD q []) st) (b := 6) (xs := S.take i) fun q _ => Nat.le_trans (goalsAt_len _ _) (row_len ok q)
          have c2 : (S.take i).length ≤ S.length := by rw [List.length_take]; omega
          have c3 := Nat.le_trans (goalsAt_len (p.mv.getD n []) st) r6
          omega
        · rw [flat_take (fun q => goalsAt (p.mv.getD q []) st) hn]
          show Lsd H3 l (List.map enc _)
          rw [List.map_append]
          exact l3
    · rintro σ H1 ⟨⟨u4, rfl⟩, sm, ls⟩
      rw [hlen, List.take_length] at ls
      have c1 := flat_le (f := fun q => goalsAt (p.mv.getD q []) st) (b := 6) (xs := S) fun q _ => Nat.le_trans (goalsAt_len _ _) (row_len ok q)
      refine ⟨_, rfl, l, _, rfl, SqL.of (ls_ints ls), by rw [List.length_map]; omega, fun b c nb hc => ?_⟩
      rw [List.length_map] at hc
      refine ⟨b, _, c, rfl, upd_same, by omega, fun ys p2 srt mem _ np2 => ?_⟩
      have e := goals_eq ok (S := S) (st := st) srt fun k => by
        rw [mem k, decide_eq_true_iff, List.mem_map]
        constructor
        · rintro ⟨g, h1, rfl⟩
          obtain ⟨q, h2, h3⟩ := List.mem_flatMap.mp h1
          exact ⟨g, rfl, q, h2, h3⟩
        · rintro ⟨g, rfl, q, h2, h3⟩
          exact ⟨g, List.mem_flatMap.mpr ⟨q, h2, h3⟩, rfl⟩
      subst e
      exact ⟨p2, _, rfl, lsd_ints upd_same, fun v' H' s' hv' => q v' H' (((sm.trans (same_new nb)).trans (same_new np2)).trans s') hv'⟩
def spLawLasts : Sp := fun vs H Q _ => ∃ (hv v : V) (p : Pts) (S : List Nat), vs = [hv, v] ∧ Is H p hv ∧ PtsOk p ∧ Is H S v ∧ (∀ q ∈ S, q < p.mv.length) ∧ S.length ≤ 6 ∧
  ∀ l H', H l = none → Same H H' → Ls H' l (lastsOf p S) → Q (.ref l) H'
theorem ok_law_lasts (B : Bi mg) (d : Df K mg "_law_lasts" "_law_lasts" s__law_lasts ["_law_parts_here", "_law_standings"]) : Ok P w K mg base 1 "_law_lasts" ["_law_parts_here", "_law_standings"] spLawLasts := by
  refine d.ok sc__law_lasts (fun vs H Q E h => ?_) (fun f cdv A outer s H vs Q E hr h => ?_)
  · obtain ⟨x, v, p, S, rfl, _⟩ := h
    rfl
  · obtain ⟨hv, v, p, S, rfl, hp, ok, hS, hq, h6, q⟩ := h
    refine ⟨_, (pss_cons (pss 2 sc__law_lasts.nd (pe_lstD pa_nil))
      (pss_cons (ps_for PassesOwn.never rfl (pi_tup (pv 1)) (pgn 3 sc__law_lasts.nd)
        (pss_one (ps_expr (pe_bm PySem.F.plainAttrs_list PySem.F.slot_list_extend PySem.F.type_list_extend mt_extD (pv 2) (pa_cons (pe_callTy cr_listD (by rfl) B.list (by decide +kernel) (pa_cons (pe_ix ix_dat (pe_ix ix_dat (pv 0) pe_int (fun _ _ => rfl)) (pv 3) (fun _ _ => rfl)) pa_nil)) pa_nil)))))
      (pss_one (ps_ret (pe_callB (cr_sortedSet rfl) (by rfl) B.sorted (by decide +kernel) (pa_cons (pe_callTy (cr_setI rfl) (by rfl) B.set (by decide +kernel) (pa_cons (pv 2) pa_nil)) pa_nil)))))), ?_⟩
    refine ⟨[], dats_nil, Nat.zero_le _, fun l H1 nl a1 l1 => ?_⟩
    have s1 : Same H H1 := a1.same nl
    obtain ⟨a, xs, rfl, ha, hxs⟩ := dat_tup.mp hS
    have hlen := dats_len hxs
    rw [List.length_map] at hlen
    refine ⟨_, rfl, a, rfl, ⟨xs, SqT.of (s1 _ _ ha)⟩, for_tup (xs := xs) (fun i σ H' => (∃ u4, σ = [some hv, some (.ref a), some (.ref l), u4]) ∧ Same H H' ∧ Ls H' l ((S.take i).flatMap fun q => p.cl.getD q []))
      ⟨⟨none, rfl⟩, s1, l1⟩ (fun i σ H' _ p => SqT.of (p.2.1 _ _ ha)) ?_ ?_⟩
    · rintro i y σ H1 hy ⟨⟨u4, rfl⟩, sm, ls⟩
      obtain ⟨dd, g1, g2⟩ := dats_getV hxs hy
      rw [List.getElem?_map] at g1
      obtain ⟨n, hn, rfl⟩ := Option.map_eq_some_iff.mp g1
      have hy' : y = .int n := is_nat.mp g2
      subst hy'
      have hnlt : n < p.cl.length := by
        rw [ok.len]
        exact hq n (List.mem_of_getElem? hn)
      obtain ⟨lvs, hlv⟩ := lsd_nd ls
      refine ⟨_, rfl, .inl ⟨rfl, _, SqL.of hlv⟩, _, rfl, _, 2, _, hp.same sm, rfl, rfl, fun v1 h1 => ⟨_, rfl, _, n, enc (p.cl.getD n []), h1, rfl, ?_, fun v2 h2 => ?_⟩⟩
      · rw [List.getElem?_map, getD_get hnlt]
        rfl
      refine ⟨_, _, rfl, .inl h2, fun D H2 nD s2 ls2 => ?_⟩
      refine ⟨l, D, _, _, rfl, rfl, ls.same s2, ls2, ?_, fun H3 a3 l3 => ⟨⟨_, rfl⟩, At1.sameOf (sm.trans s2) a3 nl, ?_⟩⟩
      · rw [List.length_map, List.length_map, sizeLine_eq]
        have c1 := flat_le (f := fun q => p.cl.getD q []) (b := 2) (xs := S.take i) fun q _ => cl_len ok q
        have c2 : (S.take i).length ≤ S.length := by rw [List.length_take]; omega
        have c3 := cl_len ok n
        omega
      · rw [flat_take (fun q => p.cl.getD q []) hn]
        show Lsd H3 l (List.map enc _)
        rw [List.map_append]
        exact l3
    · rintro σ H1 ⟨⟨u4, rfl⟩, sm, ls⟩
      rw [hlen, List.take_length] at ls
      have c1 := flat_le (f := fun q => p.cl.getD q []) (b := 2) (xs := S) fun q _ => cl_len ok q
      refine ⟨_, rfl, l, _, rfl, SqL.of (ls_ints ls), by rw [List.length_map]; omega, fun b c nb hc => ?_⟩
      rw [List.length_map] at hc
      refine ⟨b, _, c, rfl, upd_same, by omega, fun ys p2 srt mem _ np2 => ?_⟩
      have e := lasts_eq ok (S := S) srt fun k => by
        rw [mem k, decide_eq_true_iff, List.mem_map]
        constructor
        · rintro ⟨g, h1, rfl⟩
          obtain ⟨q, h2, h3⟩ := List.mem_flatMap.mp h1
          exact ⟨g, rfl, q, h2, h3⟩
        · rintro ⟨g, rfl, q, h2, h3⟩
          exact ⟨g, List.mem_flatMap.mpr ⟨q, h2, h3⟩, rfl⟩
      subst e
      exact q p2 _ (Same.free (sm.trans (same_new nb)) np2) ((sm.trans (same_new nb)).trans (same_new np2)) (lsd_ints upd_same)
def spStepsWith (P : Program) (w : World) (C : Addr) : Sp := fun vs H Q _ => ∃ (x : Addr) (m : Nat) (p : Pts), vs = [.ref x, .int m] ∧ Off P w C H x p.z p.mv p.cl ∧ PtsOk p ∧ ∀ l H', H l = none → Same H H' → Ls H' l ((allSteps p.z).filter fun st => st.m = m) → Q (.ref l) H'
theorem ok_steps_with {C : Addr} (o_all_steps : Ok P w K mg base 1 "all_steps" ["office"] (spAllSteps P w C)) (d : Df K mg "steps_with" "steps_with" s_steps_with ["office", "mark"]) : Ok P w K mg base 2 "steps_with" ["office", "mark"] (spStepsWith P w C) := by
  refine d.ok sc_steps_with (fun vs H Q E h => ?_) (fun f cdv A outer s H vs Q E hr h => ?_)
  · obtain ⟨x, m, p, rfl, _⟩ := h
    rfl
  · obtain ⟨x, m, p, rfl, off, ok, q⟩ := h
    refine ⟨_, (pss_one (ps_ret (pe_lc (own := [("step", 2)]) rfl sc_steps_with.nd (pi_list (pe_fn o_all_steps hr (pa_cons (pv 0) pa_nil))) (blkOk_by (N := ["office", "mark", "step"]) (sc := defScope s_steps_with) (by decide +kernel)) (fun _ _ _ _ _ => (pgn 2 sc_steps_with.nd)) (fun _ _ _ _ _ => (pts_one (pt_cmpR op_eq (pe_ix ix_dat (pv 2) pe_int (fun _ _ => rfl)) (pv 1) (nomark _)))) (fun _ _ _ _ _ => (pv 2))))), ?_⟩
    refine ⟨_, rfl, x, p, rfl, off, ok, fun l H1 nl s1 ls => ?_⟩
    obtain ⟨ys, hb, hys⟩ := id ls
    have hl2 := dats_len hys
    rw [List.length_map] at hl2
    have l27 := ok.z.len
    refine ⟨l, rfl, ⟨ys, SqL.of hb⟩, fun D hD => lc_is walk_list (fun j => (allSteps p.z)[j]?.bind fun st => if st.m = m then some st else none) (by have := sizeLine_eq; omega) hD (fun H' sm => SqL.of (sm _ _ hb)) (fun j y2 H2 hy2 s2 => ?_) ?_ ?_⟩
    · obtain ⟨dm, k1, k2⟩ := dats_getV hys hy2
      rw [List.getElem?_map] at k1
      obtain ⟨st, hst, rfl⟩ := Option.map_eq_some_iff.mp k1
      rw [hst]
      intro Q' q'
      refine ⟨_, rfl, _, 2, _, k2.same s2, rfl, rfl, fun v4 h4 => ⟨_, rfl, ?_⟩⟩
      have h4' := dat_num.mp h4
      subst h4'
      refine ⟨rfl, _, rfl, ?_⟩
      have e : decide (V.int ((st.m : Nat) : Int) = V.int (m : Nat)) = ((some st : Option Stp).bind fun st => if st.m = m then some st else none).isSome := by
        show _ = (if st.m = m then some st else none).isSome
        by_cases h : st.m = m
        · rw [decide_eq_true (by rw [h]), if_pos h]
          rfl
        · rw [decide_eq_false (fun z => h (by injection z with z; omega)), if_neg h]
          rfl
      show Q' (decide (V.int ((st.m : Nat) : Int) = V.int (m : Nat))) H2
      rw [e]
      exact q' _ (Same.refl _)
    · intro j y2 H2 g hy2 s2 hg Q' q'
      obtain ⟨dm, k1, k2⟩ := dats_getV hys hy2
      rw [List.getElem?_map] at k1
      obtain ⟨st, hst, rfl⟩ := Option.map_eq_some_iff.mp k1
      rw [hst] at hg
      have hg2 : (if st.m = m then some st else none) = some g := hg
      by_cases h : st.m = m
      · rw [if_pos h] at hg2
        cases hg2
        exact ⟨_, rfl, q' _ _ (Same.refl _) (k2.same s2)⟩
      · rw [if_neg h] at hg2
        cases hg2
    · intro H2 s2 ls2
      rw [hl2, outs_filterMap (fun _ => rfl)] at ls2
      have e : ((allSteps p.z).filterMap fun st => if st.m = m then some st else none) = (allSteps p.z).filter fun st => st.m = m := by
        rw [← List.filterMap_eq_filter]
        congr 1
        funext st
        by_cases h : st.m = m
        · simp [h, Option.guard]
        · simp [h, Option.guard]
      rw [e] at ls2
      exact q D H2 (s1.free hD) (s1.trans s2) ls2
def spShuts (P : Program) (w : World) (C : Addr) : Sp := fun vs H Q _ => ∃ (x : Addr) (v : V) (l : Nat) (p : Pts) (S : List Nat), vs = [.ref x, v, .int l] ∧ Off P w C H x p.z p.mv p.cl ∧ PtsOk p ∧ Is H S v ∧ (∀ q ∈ S, q < p.mv.length) ∧ S.length ≤ 6 ∧
  ∀ H', Same H H' → Q (.bl (S.any fun q => decide (l ∈ p.cl.getD q []))) H'
theorem ok_shuts_with {C : Addr} (T : TxtO K mg C) (B : Bi mg) (d : Df K mg "shuts_with" "shuts_with" s_shuts_with ["office", "standings", "last"]) : Ok P w K mg base 1 "shuts_with" ["office", "standings", "last"] (spShuts P w C) := by
  refine d.ok sc_shuts_with (fun vs H Q E h => ?_) (fun f cdv A outer s H vs Q E hr h => ?_)
  · obtain ⟨x, v, l, p, S, rfl, _⟩ := h
    rfl
  · obtain ⟨x, v, l, p, S, rfl, off, ok, hS, hq, h6, q⟩ := h
    refine ⟨_, (pss_one (ps_ret (pe_callB (cr_any rfl) (by rfl) B.any (by decide +kernel) (pa_cons (pe_lc (own := [("standing", 3)]) rfl sc_shuts_with.nd (pi_tup (pv 1)) (blkOk_by (N := ["office", "standings", "last", "standing"]) (sc := defScope s_shuts_with) (by decide +kernel)) (fun _ _ _ _ _ => (pgn 3 sc_shuts_with.nd)) (fun _ _ _ _ _ => pts_nil) (fun _ _ _ _ _ => (pe_cmpR (op_inNK K rfl hr.units) (pv 2) (pe_ix ix_dat (pe_fldK K rfl (pv 0) (by rfl)) (pv 3) (fun _ _ => rfl)) (by rfl)))) pa_nil)))), ?_⟩
    obtain ⟨a, xs, rfl, ha, hxs⟩ := dat_tup.mp hS
    have hlen := dats_len hxs
    rw [List.length_map] at hlen
    refine ⟨_, rfl, a, rfl, ⟨xs, SqT.of ha⟩, fun D hD => lc_val walk_tup (fun i => S[i]?.map fun q => V.bl (decide (l ∈ p.cl.getD q []))) (by have := sizeLine_eq; omega) hD (fun H' sm => SqT.of (sm _ _ ha)) (fun i y H1 hy _ => ?_) ?_ ?_⟩
    · obtain ⟨dd, g1, g2⟩ := dats_getV hxs hy
      rw [List.getElem?_map] at g1
      obtain ⟨n, hn, rfl⟩ := Option.map_eq_some_iff.mp g1
      rw [hn]
      exact evb_yes
    · intro i y H1 b hy sm hb Q' q'
      obtain ⟨dd, g1, g2⟩ := dats_getV hxs hy
      rw [List.getElem?_map] at g1
      obtain ⟨n, hn, rfl⟩ := Option.map_eq_some_iff.mp g1
      have hy' : y = .int n := is_nat.mp g2
      subst hy'
      rw [hn] at hb
      cases hb
      have hnlt : n < p.cl.length := by
        rw [ok.len]
        exact hq n (List.mem_of_getElem? hn)
      obtain ⟨dx, fs, v1, v2, v3, lk, refs, h1, h2, h3, h4, h5, h6, h7, h8, h9, h10, h11⟩ := (off.same sm).ex
      refine ⟨_, rfl, _, rfl, x, C, dx, fs, _, rfl, h1, T.cl, T.nC, h4, _, rfl, _, n, enc (p.cl.getD n []), h8, rfl, ?_, fun v5 h5 => ?_⟩
      · rw [List.getElem?_map, getD_get hnlt]
        rfl
      obtain ⟨b, ys, rfl, hb, hys⟩ := dat_tup.mp h5
      refine ⟨enc l, _, is_nat.mpr rfl, ⟨b, ys, rfl, .inr (SqT.of hb), hys⟩, okd _, fun e he => ?_, q' _ _ (Same.refl _) ?_⟩
      · obtain ⟨m, _, rfl⟩ := List.mem_map.mp he
        exact okd _
      · show V.bl (decide (enc l ∈ (p.cl.getD n []).map enc)) = V.bl (decide (l ∈ p.cl.getD n []))
        congr 1
        rw [decide_eq_decide, List.mem_map]
        constructor
        · rintro ⟨m, h1, h2⟩
          exact (Enc.inj m l h2) ▸ h1
        · intro h
          exact ⟨l, h, rfl⟩
    · intro H1 sm hD'
      have e : xs.length = (S.map fun q => V.bl (decide (l ∈ p.cl.getD q []))).length := by rw [List.length_map]; exact hlen
      rw [e, outs_map (fun i => (List.getElem?_map ..).symm)] at hD'
      have e2 : (S.map fun q => V.bl (decide (l ∈ p.cl.getD q []))) = (S.map fun q => decide (l ∈ p.cl.getD q [])).map V.bl := by rw [List.map_map]; rfl
      rw [e2] at hD'
      refine ⟨D, _, rfl, SqL.of hD', ?_⟩
      rw [any_flags]
      exact q H1 sm
end
end Fd

/-! The days of an office, in plain Lean. -/
namespace Fd
open Enc (enc)
/-- so many people that the days stay few -/
structure Fits (p : Pts) (n : Nat) : Prop where
  lo : 1 ≤ n
  hi : n ≤ 6
  few : p.z.m * (p.z.s * p.z.a * p.z.m) ^ n ≤ 400
def rowsN (z : Sz) : Nat → List (List Stp)
  | 0 => [[]]
  | n + 1 => (rowsN z n).flatMap fun ss => (allSteps z).map fun st => ss ++ [st]
def allDays (z : Sz) (n : Nat) : List Day := (rowsN z n).flatMap fun ss => (List.range z.m).map fun l => (ss, l)
def after (p : Pts) (ss : List Stp) : List Nat := ss.foldl (fun S st => goalsOf p S st) [0]
def isT (p : Pts) (d : Day) : Bool := (after p d.1).any fun q => decide (d.2 ∈ p.cl.getD q [])
def tdays (p : Pts) (n : Nat) : List Day := (allDays p.z n).filter (isT p)
/-- one turn more, in the law -/
def moreL (p : Pts) (x : List Stp × List Nat) : List (List Stp × List Nat) := (allSteps p.z).filterMap fun st => if goalsOf p x.2 st = [] then none else some (x.1 ++ [st], goalsOf p x.2 st)
def liveL (p : Pts) : Nat → List (List Stp × List Nat)
  | 0 => [([], [0])]
  | n + 1 => (liveL p n).flatMap (moreL p)
def daysL (p : Pts) (n : Nat) : List Day := (liveL p n).flatMap fun x => (lastsOf p x.2).map fun l => (x.1, l)
/-- a day can be ended from q in t turns -/
def alive (p : Pts) : Nat → Nat → Bool
  | 0, q => decide (0 < (p.cl.getD q []).length)
  | t + 1, q => (p.mv.getD q []).any fun m => alive p t m.g
def moreP (p : Pts) (t : Nat) (x : List Stp × List Nat) : List (List Stp × List Nat) := (allSteps p.z).filterMap fun st => if (goalsOf p x.2 st).filter (alive p t) = [] then none else some (x.1 ++ [st], (goalsOf p x.2 st).filter (alive p t))
/-- n people in all, k of them seen -/
def beginsP (p : Pts) (n : Nat) : Nat → List (List Stp × List Nat)
  | 0 => if alive p n 0 = true then [([], [0])] else []
  | k + 1 => (beginsP p n k).flatMap (moreP p (n - (k + 1)))
def daysP (p : Pts) (n : Nat) : List Day := (beginsP p n n).flatMap fun x => (List.range p.z.m).filterMap fun l => if (x.2.any fun q => decide (l ∈ p.cl.getD q [])) = true then some (x.1, l) else none
theorem goalsOf_nil (p : Pts) (st : Stp) : goalsOf p [] st = [] := by
  unfold goalsOf
  simp
theorem lastsOf_nil (p : Pts) : lastsOf p [] = [] := by
  unfold lastsOf
  simp
theorem after_snoc (p : Pts) (ss : List Stp) (st : Stp) : after p (ss ++ [st]) = goalsOf p (after p ss) st := by
  unfold after
  rw [List.foldl_append]
  rfl
theorem filterMap_flat {α β γ : Type} (f : α → Option β) (g : β → List γ) (h : α → List γ) (xs : List α) (e : ∀ x ∈ xs, h x = match f x with | none => [] | some y => g y) : (xs.filterMap f).flatMap g = xs.flatMap h := by
  induction xs with
  | nil => rfl
  | cons x xs ih =>
    have e1 := e x List.mem_cons_self
    have e2 := ih fun y hy => e y (List.mem_cons_of_mem _ hy)
    cases hf : f x with
    | none =>
      rw [hf] at e1
      rw [List.filterMap_cons_none hf, List.flatMap_cons, e1, e2]
      rfl
    | some y =>
      rw [hf] at e1
      rw [List.filterMap_cons_some hf, List.flatMap_cons, List.flatMap_cons, e1, e2]
theorem flat_filterMap {α β γ : Type} (f : α → List β) (g : β → Option γ) (xs : List α) : (xs.flatMap f).filterMap g = xs.flatMap fun x => (f x).filterMap g := by
  induction xs with
  | nil => rfl
  | cons x xs ih => rw [List.flatMap_cons, List.flatMap_cons, List.filterMap_append, ih]
theorem flat_congr {α β : Type} {f g : α → List β} {xs : List α} (h : ∀ x ∈ xs, f x = g x) : xs.flatMap f = xs.flatMap g := by
  induction xs with
  | nil => rfl
  | cons x xs ih => rw [List.flatMap_cons, List.flatMap_cons, h x List.mem_cons_self, ih fun y hy => h y (List.mem_cons_of_mem _ hy)]
theorem flat_filter {α β : Type} (f : α → List β) (q : β → Bool) (xs : List α) : (xs.flatMap f).filter q = xs.flatMap fun x => (f x).filter q := by
  induction xs with
  | nil => rfl
  | cons x xs ih => rw [List.flatMap_cons, List.flatMap_cons, List.filter_append, ih]
theorem fm_none {α β : Type} {f : α → Option β} {xs : List α} (h : ∀ x ∈ xs, f x = none) : xs.filterMap f = [] := by
  induction xs with
  | nil => rfl
  | cons x xs ih => rw [List.filterMap_cons_none (h x List.mem_cons_self), ih fun y hy => h y (List.mem_cons_of_mem _ hy)]
theorem fm_congr {α β : Type} {f g : α → Option β} {xs : List α} (h : ∀ x ∈ xs, f x = g x) : xs.filterMap f = xs.filterMap g := by
  induction xs with
  | nil => rfl
  | cons x xs ih =>
    rw [List.filterMap_cons, List.filterMap_cons, h x List.mem_cons_self, ih fun y hy => h y (List.mem_cons_of_mem _ hy)]
theorem liveL_eq (p : Pts) : ∀ n, liveL p n = (rowsN p.z n).filterMap fun ss => if after p ss = [] then none else some (ss, after p ss)
  | 0 => rfl
  | n + 1 => by
    rw [liveL, rowsN, liveL_eq p n, flat_filterMap]
    refine filterMap_flat _ _ _ _ fun ss _ => ?_
    rw [List.filterMap_map]
    by_cases h : after p ss = []
    · rw [if_pos h]
      refine fm_none fun st _ => ?_
      show (if after p (ss ++ [st]) = [] then none else some (ss ++ [st], after p (ss ++ [st]))) = none
      rw [after_snoc, h, goalsOf_nil, if_pos rfl]
    · rw [if_neg h]
      refine fm_congr fun st _ => ?_
      show (if after p (ss ++ [st]) = [] then none else some (ss ++ [st], after p (ss ++ [st]))) = _
      rw [after_snoc]
theorem daysL_eq (p : Pts) (n : Nat) : daysL p n = tdays p n := by
  unfold daysL tdays allDays
  rw [liveL_eq, flat_filter]
  refine filterMap_flat _ _ _ _ fun ss _ => ?_
  have e : ((List.range p.z.m).map fun l => (ss, l)).filter (isT p) = (lastsOf p (after p ss)).map fun l => (ss, l) := by
    rw [List.filter_map]
    rfl
  rw [e]
  by_cases h : after p ss = []
  · rw [if_pos h, h, lastsOf_nil]
    rfl
  · rw [if_neg h]
theorem goals_alive (p : Pts) (t : Nat) (S : List Nat) (st : Stp) : (goalsOf p (S.filter (alive p (t + 1))) st).filter (alive p t) = (goalsOf p S st).filter (alive p t) := by
  unfold goalsOf
  rw [List.filter_filter, List.filter_filter]
  refine List.filter_congr fun g _ => ?_
  cases ha : alive p t g with
  | false => simp
  | true =>
    rw [Bool.true_and, Bool.true_and, List.any_filter]
    rw [Bool.eq_iff_iff, List.any_eq_true, List.any_eq_true]
    constructor
    · rintro ⟨q, h1, h2⟩
      rw [Bool.and_eq_true] at h2
      exact ⟨q, h1, h2.2⟩
    · rintro ⟨q, h1, h2⟩
      refine ⟨q, h1, ?_⟩
      rw [Bool.and_eq_true]
      refine ⟨?_, h2⟩
      have h3 := of_decide_eq_true h2
      unfold goalsAt at h3
      obtain ⟨m, h4, h5⟩ := List.mem_map.mp h3
      show (p.mv.getD q []).any (fun m => alive p t m.g) = true
      exact List.any_eq_true.mpr ⟨m, (List.mem_filter.mp h4).1, by rw [h5]; exact ha⟩
theorem beginsP_eq (p : Pts) (n : Nat) : ∀ k, k ≤ n → beginsP p n k = (rowsN p.z k).filterMap fun ss => if (after p ss).filter (alive p (n - k)) = [] then none else some (ss, (after p ss).filter (alive p (n - k)))
  | 0, _ => by
    show (if alive p n 0 = true then [([], [0])] else []) = _
    rw [Nat.sub_zero]
    show _ = List.filterMap _ [[]]
    have e : after p [] = [0] := rfl
    rw [List.filterMap_cons, List.filterMap_nil, e]
    by_cases h : alive p n 0 = true
    · have e2 : [0].filter (alive p n) = [0] := by rw [List.filter_cons, if_pos h]; rfl
      rw [if_pos h, e2]
      rfl
    · have e2 : [0].filter (alive p n) = [] := by rw [List.filter_cons, if_neg h]; rfl
      rw [if_neg h, e2]
      rfl
  | k + 1, hk => by
    rw [beginsP, rowsN, beginsP_eq p n k (by omega), flat_filterMap]
    refine filterMap_flat _ _ _ _ fun ss _ => ?_
    have e : n - k = (n - (k + 1)) + 1 := by omega
    rw [List.filterMap_map]
    by_cases h : (after p ss).filter (alive p (n - k)) = []
    · rw [if_pos h]
      refine fm_none fun st _ => ?_
      show (if (after p (ss ++ [st])).filter (alive p (n - (k + 1))) = [] then none else some (ss ++ [st], (after p (ss ++ [st])).filter (alive p (n - (k + 1))))) = none
      rw [e] at h
      rw [after_snoc, ← goals_alive, h, goalsOf_nil]
      exact if_pos rfl
    · rw [if_neg h]
      refine fm_congr fun st _ => ?_
      show (if (after p (ss ++ [st])).filter (alive p (n - (k + 1))) = [] then none else some (ss ++ [st], (after p (ss ++ [st])).filter (alive p (n - (k + 1))))) = _
      show _ = if (goalsOf p ((after p ss).filter (alive p (n - k))) st).filter (alive p (n - (k + 1))) = [] then none else some (ss ++ [st], (goalsOf p ((after p ss).filter (alive p (n - k))) st).filter (alive p (n - (k + 1))))
      rw [e, goals_alive, after_snoc]
theorem any_alive (p : Pts) (S : List Nat) (l : Nat) : ((S.filter (alive p 0)).any fun q => decide (l ∈ p.cl.getD q [])) = S.any fun q => decide (l ∈ p.cl.getD q []) := by
  rw [List.any_filter, Bool.eq_iff_iff, List.any_eq_true, List.any_eq_true]
  constructor
  · rintro ⟨q, h1, h2⟩
    rw [Bool.and_eq_true] at h2
    exact ⟨q, h1, h2.2⟩
  · rintro ⟨q, h1, h2⟩
    refine ⟨q, h1, ?_⟩
    rw [Bool.and_eq_true]
    exact ⟨decide_eq_true (List.length_pos_of_mem (of_decide_eq_true h2)), h2⟩
theorem daysP_eq (p : Pts) (n : Nat) : daysP p n = tdays p n := by
  unfold daysP tdays allDays
  rw [beginsP_eq p n n (Nat.le_refl _), flat_filter]
  refine filterMap_flat _ _ _ _ fun ss _ => ?_
  rw [Nat.sub_self]
  have e : ((List.range p.z.m).map fun l => (ss, l)).filter (isT p) = (List.range p.z.m).filterMap fun l => if ((after p ss).any fun q => decide (l ∈ p.cl.getD q [])) = true then some (ss, l) else none := by
    rw [List.filter_map, ← List.filterMap_eq_filter, List.map_filterMap]
    refine fm_congr fun l _ => ?_
    show ((Option.guard (isT p ∘ fun l => (ss, l)) l).map fun l => (ss, l)) = _
    unfold Option.guard
    show Option.map _ (if isT p (ss, l) = true then some l else none) = _
    show _ = if isT p (ss, l) = true then some (ss, l) else none
    split <;> rfl
  rw [e]
  by_cases h : (after p ss).filter (alive p 0) = []
  · rw [if_pos h]
    refine fm_none fun l _ => ?_
    rw [← any_alive, h]
    rfl
  · rw [if_neg h]
    refine fm_congr fun l _ => ?_
    show _ = if (((after p ss).filter (alive p 0)).any fun q => decide (l ∈ p.cl.getD q [])) = true then some (ss, l) else none
    rw [any_alive]
/-! ### how many -/
theorem rowsN_len (z : Sz) : ∀ n, (rowsN z n).length = (z.s * z.a * z.m) ^ n
  | 0 => rfl
  | n + 1 => by
    rw [rowsN, flatMap_len (k := z.s * z.a * z.m) (fun x _ => by rw [List.length_map, allSteps_len]), rowsN_len z n, Nat.pow_succ]
theorem one_le {p : Pts} (ok : PtsOk p) : 1 ≤ p.z.s * p.z.a * p.z.m := by
  have h1 := ok.s.1
  have h2 := ok.a.1
  have h3 := ok.m.1
  have : 1 * 1 * 1 ≤ p.z.s * p.z.a * p.z.m := Nat.mul_le_mul (Nat.mul_le_mul h1 h2) h3
  simpa using this
theorem rows_few {p : Pts} (ok : PtsOk p) {n k : Nat} (f : Fits p n) (hk : k ≤ n) : (rowsN p.z k).length ≤ 400 := by
  rw [rowsN_len]
  have h1 : (p.z.s * p.z.a * p.z.m) ^ k ≤ (p.z.s * p.z.a * p.z.m) ^ n := Nat.pow_le_pow_right (one_le ok) hk
  have h2 : 1 * (p.z.s * p.z.a * p.z.m) ^ n ≤ p.z.m * (p.z.s * p.z.a * p.z.m) ^ n := Nat.mul_le_mul_right _ ok.m.1
  have h3 := f.few
  omega
theorem allDays_len (z : Sz) (n : Nat) : (allDays z n).length = (z.s * z.a * z.m) ^ n * z.m := by
  unfold allDays
  rw [flatMap_len (k := z.m) (fun x _ => by simp), rowsN_len]
theorem days_few {p : Pts} {n : Nat} (f : Fits p n) : (allDays p.z n).length ≤ 400 := by
  rw [allDays_len, Nat.mul_comm]
  exact f.few
theorem rowsN_mem {z : Sz} : ∀ {n : Nat} {ss : List Stp}, ss ∈ rowsN z n ↔ ss.length = n ∧ ∀ st ∈ ss, st ∈ allSteps z
  | 0, ss => by
    rw [rowsN, List.mem_singleton]
    constructor
    · rintro rfl
      exact ⟨rfl, fun st h => nomatch h⟩
    · rintro ⟨h, _⟩
      exact List.eq_nil_of_length_eq_zero h
  | n + 1, ss => by
    rw [rowsN, List.mem_flatMap]
    constructor
    · rintro ⟨rr, h1, h2⟩
      obtain ⟨st, h3, rfl⟩ := List.mem_map.mp h2
      obtain ⟨h4, h5⟩ := rowsN_mem.mp h1
      refine ⟨by simp [h4], fun x hx => ?_⟩
      rcases List.mem_append.mp hx with h | h
      · exact h5 x h
      · rw [List.mem_singleton] at h
        exact h ▸ h3
    · rintro ⟨h1, h2⟩
      have hne : ss ≠ [] := fun e => by
        rw [e] at h1
        simp at h1
      have e := List.dropLast_concat_getLast hne
      refine ⟨ss.dropLast, rowsN_mem.mpr ⟨by rw [List.length_dropLast, h1]; rfl, fun x hx => h2 x (List.dropLast_subset _ hx)⟩, List.mem_map.mpr ⟨ss.getLast hne, h2 _ (List.getLast_mem hne), e⟩⟩
theorem allSteps_mem {z : Sz} {st : Stp} : st ∈ allSteps z ↔ st.s < z.s ∧ st.a < z.a ∧ st.m < z.m := by
  unfold allSteps
  rw [List.mem_flatMap]
  constructor
  · rintro ⟨s, h1, h2⟩
    obtain ⟨a, h3, h4⟩ := List.mem_flatMap.mp h2
    obtain ⟨m, h5, rfl⟩ := List.mem_map.mp h4
    exact ⟨List.mem_range.mp h1, List.mem_range.mp h3, List.mem_range.mp h5⟩
  · rintro ⟨h1, h2, h3⟩
    exact ⟨st.s, List.mem_range.mpr h1, List.mem_flatMap.mpr ⟨st.a, List.mem_range.mpr h2, List.mem_map.mpr ⟨st.m, List.mem_range.mpr h3, rfl⟩⟩⟩
theorem allDays_mem {z : Sz} {n : Nat} {d : Day} : d ∈ allDays z n ↔ d.1 ∈ rowsN z n ∧ d.2 < z.m := by
  unfold allDays
  rw [List.mem_flatMap]
  constructor
  · rintro ⟨ss, h1, h2⟩
    obtain ⟨l, h3, rfl⟩ := List.mem_map.mp h2
    exact ⟨h1, List.mem_range.mp h3⟩
  · rintro ⟨h1, h2⟩
    exact ⟨d.1, h1, List.mem_map.mpr ⟨d.2, List.mem_range.mpr h2, rfl⟩⟩
theorem goalsOf_lt {p : Pts} {S : List Nat} {st : Stp} {g : Nat} (h : g ∈ goalsOf p S st) : g < p.mv.length := List.mem_range.mp (List.mem_filter.mp h).1
theorem goalsOf_len (p : Pts) (S : List Nat) (st : Stp) : (goalsOf p S st).length ≤ p.mv.length := by
  unfold goalsOf
  have := List.length_filter_le (fun g => S.any fun q => decide (g ∈ goalsAt (p.mv.getD q []) st)) (List.range p.mv.length)
  simpa using this
theorem after_ok {p : Pts} (ok : PtsOk p) : ∀ ss : List Stp, (∀ q ∈ after p ss, q < p.mv.length) ∧ (after p ss).length ≤ 6 := by
  intro ss
  have h6 := ok.mv.1
  rcases List.eq_nil_or_concat ss with rfl | ⟨rr, st, rfl⟩
  · refine ⟨fun q hq => ?_, by show 1 ≤ 6; omega⟩
    rw [show after p [] = [0] from rfl, List.mem_singleton] at hq
    omega
  · rw [List.concat_eq_append, after_snoc]
    exact ⟨fun q hq => goalsOf_lt hq, Nat.le_trans (goalsOf_len _ _ _) h6.2⟩
theorem liveL_mem {p : Pts} {n : Nat} {x : List Stp × List Nat} (h : x ∈ liveL p n) : x.1 ∈ rowsN p.z n ∧ x.2 = after p x.1 := by
  rw [liveL_eq] at h
  obtain ⟨ss, h1, h2⟩ := List.mem_filterMap.mp h
  split at h2
  · cases h2
  · cases h2
    exact ⟨h1, rfl⟩
theorem liveL_len {p : Pts} (ok : PtsOk p) {n k : Nat} (f : Fits p n) (hk : k ≤ n) : (liveL p k).length ≤ 400 := by
  rw [liveL_eq]
  exact Nat.le_trans (List.length_filterMap_le _ _) (rows_few ok f hk)
theorem beginsP_mem {p : Pts} {n k : Nat} (hk : k ≤ n) {x : List Stp × List Nat} (h : x ∈ beginsP p n k) : x.1 ∈ rowsN p.z k ∧ x.2 = (after p x.1).filter (alive p (n - k)) := by
  rw [beginsP_eq p n k hk] at h
  obtain ⟨ss, h1, h2⟩ := List.mem_filterMap.mp h
  split at h2
  · cases h2
  · cases h2
    exact ⟨h1, rfl⟩
theorem beginsP_len {p : Pts} (ok : PtsOk p) {n k : Nat} (f : Fits p n) (hk : k ≤ n) : (beginsP p n k).length ≤ 400 := by
  rw [beginsP_eq p n k hk]
  exact Nat.le_trans (List.length_filterMap_le _ _) (rows_few ok f hk)
theorem tdays_len {p : Pts} {n : Nat} (f : Fits p n) : (tdays p n).length ≤ 400 := Nat.le_trans (List.length_filter_le _ _) (days_few f)
theorem tdays_mem {p : Pts} {n : Nat} {d : Day} : d ∈ tdays p n ↔ d ∈ allDays p.z n ∧ isT p d = true := List.mem_filter
end Fd

/-! The law's own days. -/
namespace Fd
open PySem PySem.Spec PyProof.Rows L2
open Enc (enc)
abbrev s__law_true_days : Stmt := topS 59
theorem sc__law_true_days : FnScope ["_law_parts_here", "_law_many", "_law_found", "_law_turn", "_law_longer", "_law_steps_here", "_law_standings", "_law_step", "_law_goals_here", "_law_days", "_law_last"] ["_law_parts_here", "_law_many"] (defScope s__law_true_days) := ⟨rfl, rfl, rfl, by decide +kernel, rfl, by decide +kernel, by decide +kernel⟩
abbrev s__law_all_days : Stmt := topS 60
theorem sc__law_all_days : FnScope ["_law_sizes_here", "_law_many", "_law_found", "_law_turn", "_law_longer", "_law_steps_here", "_law_days", "_law_last", "_law_step"] ["_law_sizes_here", "_law_many"] (defScope s__law_all_days) := ⟨rfl, rfl, rfl, by decide +kernel, rfl, by decide +kernel, by decide +kernel⟩
theorem sd_same {D : Addr} {H B H' : Hp} (s : Same H B) (n : H D = none) (d : Sd D B H') : Same H H' := fun b o e => by
  have hb : b ≠ D := fun z => by
    rw [z, n] at e
    cases e
  exact d b o (s b o e) hb
theorem At1.sd {D : Addr} {H H' : Hp} (a : At1 D H H') : Sd D H H' := fun b o e n => by
  rw [a b n]
  exact e
theorem lsd_sd {z l : Addr} {H H' : Hp} {ds : List D} (h : Lsd H l ds) (n : l ≠ z) (s : Sd z H H') (nt : ∀ xs, H z ≠ some (.tup xs)) : Lsd H' l ds := by
  obtain ⟨vs, e, d⟩ := h
  exact ⟨vs, s _ _ e n, Dats.mono (s.tx nt) _ _ d⟩
theorem Dat.sd {z : Addr} {H H' : Hp} {d : D} {v : V} (h : Dat H d v) (s : Sd z H H') (nt : ∀ xs, H z ≠ some (.tup xs)) : Dat H' d v := Dat.mono (s.tx nt) _ _ h
theorem Dats.sd {z : Addr} {H H' : Hp} {d : List D} {v : List V} (h : Dats H d v) (s : Sd z H H') (nt : ∀ xs, H z ≠ some (.tup xs)) : Dats H' d v := Dats.mono (s.tx nt) _ _ h
theorem lsd_app {α : Type} [Enc α] {H : Hp} {l : Addr} {xs ys : List α} (h : Lsd H l (xs.map enc ++ ys.map enc)) : Ls H l (xs ++ ys) := by
  show Lsd H l ((xs ++ ys).map enc)
  rw [List.map_append]
  exact h
theorem fm_take {α β : Type} (f : α → Option β) {xs : List α} {i : Nat} {x : α} (h : xs[i]? = some x) : (xs.take (i + 1)).filterMap f = (xs.take i).filterMap f ++ (match f x with | some y => [y] | none => []) := by
  rw [take_snoc h, List.filterMap_append]
  cases e : f x <;> simp [e]
section
variable {P : Program} {w : World} {K : PySem.W.Frag} {mg : Str → Option Value} {base : Heap}
def spLawTrue : Sp := fun vs H Q _ => ∃ (hv : V) (p : Pts) (n : Nat), vs = [hv, .int n] ∧ Is H p hv ∧ PtsOk p ∧ Fits p n ∧ ∀ l H', H l = none → Same H H' → Ls H' l (tdays p n) → Q (.ref l) H'
theorem ok_law_true_days (B : Bi mg) (o__law_steps : Ok P w K mg base 1 "_law_steps" ["_law_sizes_here"] spLawSteps) (o__law_goals : Ok P w K mg base 1 "_law_goals" ["_law_parts_here", "_law_standings", "_law_step"] spLawGoals)
    (o__law_lasts : Ok P w K mg base 1 "_law_lasts" ["_law_parts_here", "_law_standings"] spLawLasts)
    (d : Df K mg "_law_true_days" "_law_true_days" s__law_true_days ["_law_parts_here", "_law_many"]) : Ok P w K mg base 2 "_law_true_days" ["_law_parts_here", "_law_many"] spLawTrue := by
  refine d.ok sc__law_true_days (fun vs H Q E h => ?_) (fun f cdv A outer s H vs Q E hr h => ?_)
  · obtain ⟨hv, p, n, rfl, _⟩ := h
    rfl
  · obtain ⟨hv, p, n, rfl, hp, ok, fit, q⟩ := h
    refine ⟨_, (pss_cons (pss 2 sc__law_true_days.nd (pe_lstD (pa_cons (pe_tupD (pa_cons (pe_tupD pa_nil) (pa_cons (pe_tupD (pa_cons pe_int pa_nil)) pa_nil))) pa_nil)))
      (pss_cons (ps_for PassesOwn.never rfl (pi_range1 rfl B.range (pa_cons (pv 1) pa_nil)) (pgn 3 sc__law_true_days.nd)
        (pss_cons (pss 4 sc__law_true_days.nd (pe_lstD pa_nil))
        (pss_cons (ps_for PassesOwn.never rfl (pi_list (pv 2)) (pg_tupD rfl (pgs_cons (pgn 5 sc__law_true_days.nd) (pgs_cons (pgn 6 sc__law_true_days.nd) pgs_nil)))
          (pss_one (ps_for PassesOwn.never rfl (pi_list (pe_fn o__law_steps hr (pa_cons (pe_ix ix_dat (pv 0) pe_int (fun _ _ => rfl)) pa_nil))) (pgn 7 sc__law_true_days.nd)
            (pss_cons (pss 8 sc__law_true_days.nd (pe_fn o__law_goals hr (pa_cons (pv 0) (pa_cons (pv 6) (pa_cons (pv 7) pa_nil)))))
            (pss_one (ps_if (pt_cmpR (op_neN hr.units) (pv 8) (pe_tupD pa_nil) (nomark _))
              (pss_one (ps_expr (pe_bm PySem.F.plainAttrs_list PySem.F.slot_list_append PySem.F.type_list_append mt_appD (pv 4) (pa_cons (pe_tupD (pa_cons (pe_op op_catD (pv 5) (pe_tupD (pa_cons (pv 7) pa_nil))) (pa_cons (pv 8) pa_nil))) pa_nil))))
              pss_nil))))))
        (pss_one (pss 2 sc__law_true_days.nd (pv 4))))))
      (pss_cons (pss 9 sc__law_true_days.nd (pe_lstD pa_nil))
      (pss_cons (ps_for PassesOwn.never rfl (pi_list (pv 2)) (pg_tupD rfl (pgs_cons (pgn 5 sc__law_true_days.nd) (pgs_cons (pgn 6 sc__law_true_days.nd) pgs_nil)))
        (pss_one (ps_expr (pe_bm PySem.F.plainAttrs_list PySem.F.slot_list_extend PySem.F.type_list_extend mt_extD (pv 9) (pa_cons (pe_lc (own := [("_law_last", 10)]) rfl sc__law_true_days.nd (pi_list (pe_fn o__law_lasts hr (pa_cons (pv 0) (pa_cons (pv 6) pa_nil)))) (blkOk_by (N := ["_law_parts_here", "_law_many", "_law_found", "_law_turn", "_law_longer", "_law_steps_here", "_law_standings", "_law_step", "_law_goals_here", "_law_days", "_law_last"]) (sc := defScope s__law_true_days) (by decide +kernel)) (fun _ _ _ _ _ => (pgn 10 sc__law_true_days.nd)) (fun _ _ _ _ _ => pts_nil) (fun _ _ _ _ _ => (pe_tupD (pa_cons (pv 5) (pa_cons (pv 10) pa_nil))))) pa_nil)))))
      (pss_one (ps_ret (pv 9))))))), ?_⟩
    refine ⟨[], dats_nil, Nat.zero_le _, fun v1 H1 s1 h1 => ⟨[.num 0], dats_cons (dat_num.mpr rfl) dats_nil, by show 1 ≤ sizeLine; rw [sizeLine_eq]; omega, fun v2 H2 s2 h2 => ?_⟩⟩
    refine ⟨_, dats_cons (h1.same s2) (dats_cons h2 dats_nil), by show 2 ≤ sizeLine; rw [sizeLine_eq]; omega, fun v3 H3 s3 h3 => ⟨_, dats_cons h3 dats_nil, by show 1 ≤ sizeLine; rw [sizeLine_eq]; omega, fun fd H4 nfd a4 l4 => ?_⟩⟩
    have s03 : Same H H3 := (s1.trans s2).trans s3
    have s04 : Same H H4 := s03.trans (a4.same nfd)
    have nf0 : H fd = none := s03.free nfd
    refine ⟨_, rfl, n, rfl, by have := fit.hi; omega, by have := fit.hi; omega, ?_⟩
    rw [Int.toNat_natCast]
    refine for_range (lo := 0) (n := n) (fun t σ H' => ∃ (fd : Addr) (u3 u4 u5 u6 u7 u8 : Option V), σ = [some hv, some (.int n), some (.ref fd), u3, u4, u5, u6, u7, u8, none, none] ∧ H fd = none ∧ Same H H' ∧ Ls H' fd (liveL p t))
      ⟨fd, none, none, none, none, none, none, rfl, nf0, s04, l4⟩ ?_ ?_
    · rintro t σ H5 ht ⟨fd, u3, u4, u5, u6, u7, u8, rfl, nf, sm, lf⟩
      have tl : t ≤ n := by omega
      refine ⟨[], dats_nil, Nat.zero_le _, fun lg Bh nlg aB lB => ?_⟩
      have sB : Same H Bh := sm.trans (aB.same nlg)
      have nl0 : H lg = none := sm.free nlg
      have ntl : ∀ xs, Bh lg ≠ some (.tup xs) := lB.ntup
      have nfl : fd ≠ lg := fun z => lf.some (z ▸ nlg)
      obtain ⟨xs, hx, hxs⟩ : Ls Bh fd (liveL p t) := lf.same (aB.same nlg)
      have hlen := dats_len hxs
      rw [List.length_map] at hlen
      have l400 := liveL_len ok fit tl
      refine ⟨_, rfl, fd, rfl, ⟨xs, SqL.of hx⟩, for_list (xs := xs) (fun i σ H' => (∃ u5 u6 u7 u8 : Option V, σ = [some hv, some (.int n), some (.ref fd), some (.int (0 + (t : Int))), some (.ref lg), u5, u6, u7, u8, none, none]) ∧ Sd lg Bh H' ∧ Ls H' lg (((liveL p t).take i).flatMap (moreL p)))
        ⟨⟨u5, u6, u7, u8, rfl⟩, Sd.refl _, lB⟩ (fun i σ H' _ p => SqL.of (p.2.1 _ _ hx nfl)) ?_ ?_⟩
      · rintro i v σ H6 hv6 ⟨⟨u5, u6, u7, u8, rfl⟩, sd, lL⟩
        obtain ⟨dd, g1, g2⟩ := dats_getV hxs hv6
        rw [List.getElem?_map] at g1
        obtain ⟨x, hxm, rfl⟩ := Option.map_eq_some_iff.mp g1
        obtain ⟨m1, m2⟩ := liveL_mem (List.mem_of_getElem? hxm)
        have hlt6 := (List.getElem?_eq_some_iff.mp hxm).1
        have hp6 : Is H6 p hv := hp.same (sd_same sB nl0 sd)
        refine ⟨_, g2.sd sd ntl, rfl, fun ws hws => ?_⟩
        obtain ⟨w1, r1, rfl, e1, g3⟩ := dats_of_cons hws
        obtain ⟨w2, r2, rfl, e2, g4⟩ := dats_of_cons g3
        have g5 := dats_of_nil g4
        subst g5
        refine ⟨_, _, rfl, _, _, rfl, rfl, ?_⟩
        refine ⟨_, rfl, _, 0, _, hp6, rfl, rfl, fun v7 h7 => ⟨_, p.z, rfl, h7, ok.z, fun sl B2 nsl s6 lsl => ?_⟩⟩
        obtain ⟨ys, hy, hys⟩ := id lsl
        have hlen2 := dats_len hys
        rw [List.length_map] at hlen2
        have nsg : sl ≠ lg := fun z => lL.some (z ▸ nsl)
        have lL2 := lL.same s6
        have ntl2 : ∀ xs, B2 lg ≠ some (.tup xs) := lL2.ntup
        refine ⟨sl, rfl, ⟨ys, SqL.of hy⟩, for_list (xs := ys) (fun j σ H' => (∃ u7 u8 : Option V, σ = [some hv, some (.int n), some (.ref fd), some (.int (0 + (t : Int))), some (.ref lg), some w1, some w2, u7, u8, none, none]) ∧ Sd lg B2 H' ∧
            Ls H' lg (((liveL p t).take i).flatMap (moreL p) ++ ((allSteps p.z).take j).filterMap fun st => if goalsOf p x.2 st = [] then none else some (x.1 ++ [st], goalsOf p x.2 st)))
          ⟨⟨u7, u8, rfl⟩, Sd.refl _, by rw [List.take_zero, List.filterMap_nil, List.append_nil]; exact lL2⟩ (fun j σ H' _ p => SqL.of (p.2.1 _ _ hy nsg)) ?_ ?_⟩
        · rintro j y σ H7 hy7 ⟨⟨u7, u8, rfl⟩, sd7, lL7⟩
          obtain ⟨dd, k1, k2⟩ := dats_getV hys hy7
          rw [List.getElem?_map] at k1
          obtain ⟨st, hst, rfl⟩ := Option.map_eq_some_iff.mp k1
          have tx67 : Tx H6 H7 := (tx_same s6).trans (sd7.tx ntl2)
          have c1 : Is H7 st y := k2.sd sd7 ntl2
          have c2 : Is H7 x.1 w1 := Dat.mono tx67 _ _ e1
          have c3 : Is H7 x.2 w2 := Dat.mono tx67 _ _ e2
          have c4 : Is H7 p hv := Dat.mono tx67 _ _ hp6
          obtain ⟨b1, b2⟩ := after_ok ok x.1
          rw [← m2] at b1 b2
          refine ⟨_, rfl, _, rfl, _, rfl, _, _, _, p, x.2, st, rfl, c4, ok, c3, c1, b1, b2, fun gv H8 s8 hg => ?_⟩
          refine ⟨_, rfl, [], dats_nil, Nat.zero_le _, fun ev H9 s9 h9 => ⟨enc (goalsOf p x.2 st), _, hg.same s9, h9, okd _, ⟨by decide, by decide⟩, _, rfl, ?_⟩⟩
          have s79 := s8.trans s9
          have lL9 := lL7.same s79
          by_cases hn : goalsOf p x.2 st = []
          · have e : (!decide (enc (goalsOf p x.2 st) = NestedKey.tup [])) = false := by rw [hn]; decide
            rw [e]
            refine iteF ⟨⟨_, _, rfl⟩, fun b o eb nb => s79 _ _ (sd7 b o eb nb), ?_⟩
            rw [fm_take _ hst, if_pos hn, List.append_nil]
            exact lL9
          · have e : (!decide (enc (goalsOf p x.2 st) = NestedKey.tup [])) = true := by
              have h0 : enc (goalsOf p x.2 st) ≠ NestedKey.tup [] := fun z => hn (Enc.inj _ ([] : List Nat) z)
              rw [decide_eq_false h0]
              rfl
            rw [e]
            obtain ⟨lvs, hlv⟩ := lsd_nd lL9
            have st1 := (rowsN_mem.mp m1).1
            have n6 := fit.hi
            refine iteT ⟨_, rfl, .inl ⟨rfl, _, SqL.of hlv⟩, _, rfl, _, rfl, [enc st], dats_cons (c1.same s79) dats_nil, by show 1 ≤ sizeLine; rw [sizeLine_eq]; omega, fun a1 Ha sa ha => ?_⟩
            refine ⟨_, _, ((c2.same s79).same sa), ha, by rw [List.length_map, sizeLine_eq]; show x.1.length + 1 ≤ _; omega, fun a2 Hb sb hb => ?_⟩
            refine ⟨_, rfl, [enc (x.1 ++ [st]), enc (goalsOf p x.2 st)], dats_cons ?_ (dats_cons (((hg.same s9).same sa).same sb) dats_nil), by show 2 ≤ sizeLine; rw [sizeLine_eq]; omega, fun a3 Hc sc hc => ?_⟩
            · show Dat Hb (NestedKey.tup ((x.1 ++ [st]).map enc)) a2
              rw [List.map_append]
              exact hb
            have sac : Same H9 Hc := (sa.trans sb).trans sc
            refine ⟨lg, _, _, a3, rfl, rfl, lL9.same sac, hc, ?_, fun Hd ad ld => ⟨⟨_, _, rfl⟩, ?_, ?_⟩⟩
            · rw [List.length_map, List.length_append, sizeLine_eq]
              have q1 := flat_le (f := moreL p) (b := 27) (xs := (liveL p t).take i) fun y _ => Nat.le_trans (List.length_filterMap_le _ _) ok.z.len
              have q2 := List.length_filterMap_le (fun st => if goalsOf p x.2 st = [] then none else some (x.1 ++ [st], goalsOf p x.2 st)) ((allSteps p.z).take j)
              have q3 : ((liveL p t).take i).length ≤ (liveL p t).length := by rw [List.length_take]; omega
              have q4 : ((allSteps p.z).take j).length ≤ (allSteps p.z).length := by rw [List.length_take]; omega
              have q5 := ok.z.len
              omega
            · exact fun b o eb nb => ad.sd b o (sac _ _ (s79 _ _ (sd7 b o eb nb))) nb
            · rw [fm_take _ hst, if_neg hn, ← List.append_assoc]
              exact lsd_app (ys := [(x.1 ++ [st], goalsOf p x.2 st)]) ld
        · rintro σ H7 ⟨⟨u7, u8, rfl⟩, sd7, lL7⟩
          refine ⟨⟨_, _, _, _, rfl⟩, fun b o eb nb => sd7 b o (s6 _ _ (sd b o eb nb)) nb, ?_⟩
          rw [flat_take _ hxm]
          rw [hlen2, List.take_length] at lL7
          exact lL7
      · rintro σ H6 ⟨⟨u5, u6, u7, u8, rfl⟩, sd, lL⟩
        rw [hlen, List.take_length] at lL
        exact ⟨_, rfl, lg, _, _, _, _, _, _, rfl, nl0, sd_same sB nl0 sd, lL⟩
    · rintro σ H5 ⟨fd, u3, u4, u5, u6, u7, u8, rfl, nf, sm, lf⟩
      refine ⟨[], dats_nil, Nat.zero_le _, fun lg Bh nlg aB lB => ?_⟩
      have sB : Same H Bh := sm.trans (aB.same nlg)
      have nl0 : H lg = none := sm.free nlg
      have ntl : ∀ xs, Bh lg ≠ some (.tup xs) := lB.ntup
      have nfl : fd ≠ lg := fun z => lf.some (z ▸ nlg)
      obtain ⟨xs, hx, hxs⟩ : Ls Bh fd (liveL p n) := lf.same (aB.same nlg)
      have hlen := dats_len hxs
      rw [List.length_map] at hlen
      have l400 := liveL_len ok fit (Nat.le_refl n)
      refine ⟨_, rfl, fd, rfl, ⟨xs, SqL.of hx⟩, for_list (xs := xs) (fun i σ H' => (∃ u3 u4 u5 u6 u7 u8 : Option V, σ = [some hv, some (.int n), some (.ref fd), u3, u4, u5, u6, u7, u8, some (.ref lg), none]) ∧ Sd lg Bh H' ∧ Ls H' lg (((liveL p n).take i).flatMap fun x => (lastsOf p x.2).map fun l => (x.1, l)))
        ⟨⟨u3, u4, u5, u6, u7, u8, rfl⟩, Sd.refl _, lB⟩ (fun i σ H' _ p => SqL.of (p.2.1 _ _ hx nfl)) ?_ ?_⟩
      · rintro i v σ H6 hv6 ⟨⟨u3, u4, u5, u6, u7, u8, rfl⟩, sd, lL⟩
        obtain ⟨dd, g1, g2⟩ := dats_getV hxs hv6
        rw [List.getElem?_map] at g1
        obtain ⟨x, hxm, rfl⟩ := Option.map_eq_some_iff.mp g1
        obtain ⟨m1, m2⟩ := liveL_mem (List.mem_of_getElem? hxm)
        have hlt6 := (List.getElem?_eq_some_iff.mp hxm).1
        have hp6 : Is H6 p hv := hp.same (sd_same sB nl0 sd)
        refine ⟨_, g2.sd sd ntl, rfl, fun ws hws => ?_⟩
        obtain ⟨w1, r1, rfl, e1, g3⟩ := dats_of_cons hws
        obtain ⟨w2, r2, rfl, e2, g4⟩ := dats_of_cons g3
        have g5 := dats_of_nil g4
        subst g5
        refine ⟨_, _, rfl, _, _, rfl, rfl, ?_⟩
        obtain ⟨lvs, hlv⟩ := lsd_nd lL
        obtain ⟨b1, b2⟩ := after_ok ok x.1
        rw [← m2] at b1 b2
        refine ⟨_, rfl, .inl ⟨rfl, _, SqL.of hlv⟩, _, rfl, _, rfl, _, _, p, x.2, rfl, hp6, ok, e2, b1, b2, fun ll H7 nll s7 l7 => ?_⟩
        obtain ⟨ys, hy, hys⟩ := id l7
        have hlen2 := dats_len hys
        rw [List.length_map] at hlen2
        have k3 : (lastsOf p x.2).length ≤ p.z.m := by
          have := List.length_filter_le (fun l => x.2.any fun q => decide (l ∈ p.cl.getD q [])) (List.range p.z.m)
          unfold lastsOf
          simpa using this
        have zm := ok.m.2
        refine ⟨ll, rfl, ⟨ys, SqL.of hy⟩, fun D hD => lc_is walk_list (fun j => (lastsOf p x.2)[j]?.map fun l => ((x.1, l) : Day)) (by have := sizeLine_eq; omega) hD (fun H' sm => SqL.of (sm _ _ hy)) (fun j y H8 hy8 _ => ?_) ?_ ?_⟩
        · obtain ⟨dd, k1, k2⟩ := dats_getV hys hy8
          rw [List.getElem?_map] at k1
          obtain ⟨l, hl, rfl⟩ := Option.map_eq_some_iff.mp k1
          rw [hl]
          exact evb_yes
        · intro j y H8 b hy8 s8 hb Q' q'
          obtain ⟨dd, k1, k2⟩ := dats_getV hys hy8
          rw [List.getElem?_map] at k1
          obtain ⟨l, hl, rfl⟩ := Option.map_eq_some_iff.mp k1
          rw [hl] at hb
          cases hb
          exact ⟨_, rfl, _, rfl, _, dats_cons ((e1.same s7).same s8) (dats_cons (k2.same s8) dats_nil), by show 2 ≤ sizeLine; rw [sizeLine_eq]; omega, fun u H9 s9 h9 => q' u _ s9 h9⟩
        · intro H8 s8 l8
          have e : ys.length = ((lastsOf p x.2).map fun l => ((x.1, l) : Day)).length := by rw [List.length_map]; exact hlen2
          rw [e, outs_map (fun i => (List.getElem?_map ..).symm)] at l8
          have s68 : Same H6 H8 := s7.trans s8
          refine ⟨lg, D, _, _, rfl, rfl, lL.same s68, l8, ?_, fun H9 a9 l9 => ⟨⟨_, _, _, _, _, _, rfl⟩, fun b o eb nb => a9.sd b o (s68 _ _ (sd b o eb nb)) nb, ?_⟩⟩
          · rw [List.length_map, List.length_map, List.length_map, sizeLine_eq]
            have q1 := flat_le (f := fun x : List Stp × List Nat => (lastsOf p x.2).map fun l => ((x.1, l) : Day)) (b := 3) (xs := (liveL p n).take i) fun y _ => by
              rw [List.length_map]
              have := List.length_filter_le (fun l => y.2.any fun q => decide (l ∈ p.cl.getD q [])) (List.range p.z.m)
              unfold lastsOf
              rw [List.length_range] at this
              omega
            have q3 : ((liveL p n).take i).length ≤ (liveL p n).length := by rw [List.length_take]; omega
            omega
          · rw [flat_take _ hxm]
            exact lsd_app l9
      · rintro σ H6 ⟨⟨u3, u4, u5, u6, u7, u8, rfl⟩, sd, lL⟩
        rw [hlen, List.take_length] at lL
        have e : ((liveL p n).flatMap fun x => (lastsOf p x.2).map fun l => ((x.1, l) : Day)) = tdays p n := daysL_eq p n
        rw [e] at lL
        exact ⟨_, rfl, q lg H6 nl0 (sd_same sB nl0 sd) lL⟩
end
end Fd

/-! All days. -/
namespace Fd
open PySem PySem.Spec PyProof.Rows L2
open Enc (enc)
section
variable {P : Program} {w : World} {K : PySem.W.Frag} {mg : Str → Option Value} {base : Heap}
def spLawAll : Sp := fun vs H Q _ => ∃ (hv : V) (p : Pts) (n : Nat), vs = [hv, .int n] ∧ Is H p.z hv ∧ PtsOk p ∧ Fits p n ∧ ∀ l H', H l = none → Same H H' → Ls H' l (allDays p.z n) → Q (.ref l) H'
theorem ok_law_all_days (B : Bi mg) (o__law_steps : Ok P w K mg base 1 "_law_steps" ["_law_sizes_here"] spLawSteps)
    (d : Df K mg "_law_all_days" "_law_all_days" s__law_all_days ["_law_sizes_here", "_law_many"]) : Ok P w K mg base 2 "_law_all_days" ["_law_sizes_here", "_law_many"] spLawAll := by
  refine d.ok sc__law_all_days (fun vs H Q E h => ?_) (fun f cdv A outer s H vs Q E hr h => ?_)
  · obtain ⟨hv, p, n, rfl, _⟩ := h
    rfl
  · obtain ⟨hv, p, n, rfl, hp, ok, fit, q⟩ := h
    refine ⟨_, (pss_cons (pss 2 sc__law_all_days.nd (pe_lstD (pa_cons (pe_tupD pa_nil) pa_nil)))
      (pss_cons (ps_for PassesOwn.never rfl (pi_range1 rfl B.range (pa_cons (pv 1) pa_nil)) (pgn 3 sc__law_all_days.nd)
        (pss_cons (pss 4 sc__law_all_days.nd (pe_lstD pa_nil))
        (pss_cons (ps_for PassesOwn.never rfl (pi_list (pv 2)) (pgn 5 sc__law_all_days.nd)
          (pss_one (ps_expr (pe_bm PySem.F.plainAttrs_list PySem.F.slot_list_extend PySem.F.type_list_extend mt_extD (pv 4) (pa_cons (pe_lc (own := [("_law_step", 8)]) rfl sc__law_all_days.nd (pi_list (pe_fn o__law_steps hr (pa_cons (pv 0) pa_nil))) (blkOk_by (N := ["_law_sizes_here", "_law_many", "_law_found", "_law_turn", "_law_longer", "_law_steps_here", "_law_days", "_law_last", "_law_step"]) (sc := defScope s__law_all_days) (by decide +kernel)) (fun _ _ _ _ _ => (pgn 8 sc__law_all_days.nd)) (fun _ _ _ _ _ => pts_nil) (fun _ _ _ _ _ => (pe_op op_catD (pv 5) (pe_tupD (pa_cons (pv 8) pa_nil))))) pa_nil)))))
        (pss_one (pss 2 sc__law_all_days.nd (pv 4))))))
      (pss_cons (pss 6 sc__law_all_days.nd (pe_lstD pa_nil))
      (pss_cons (ps_for PassesOwn.never rfl (pi_list (pv 2)) (pgn 5 sc__law_all_days.nd)
        (pss_one (ps_expr (pe_bm PySem.F.plainAttrs_list PySem.F.slot_list_extend PySem.F.type_list_extend mt_extD (pv 6) (pa_cons (pe_lc (own := [("_law_last", 7)]) rfl sc__law_all_days.nd (pi_range1 rfl B.range (pa_cons (pe_ix ix_dat (pv 0) pe_int (fun _ _ => rfl)) pa_nil)) (blkOk_by (N := ["_law_sizes_here", "_law_many", "_law_found", "_law_turn", "_law_longer", "_law_steps_here", "_law_days", "_law_last", "_law_step"]) (sc := defScope s__law_all_days) (by decide +kernel)) (fun _ _ _ _ _ => (pgn 7 sc__law_all_days.nd)) (fun _ _ _ _ _ => pts_nil) (fun _ _ _ _ _ => (pe_tupD (pa_cons (pv 5) (pa_cons (pv 7) pa_nil))))) pa_nil)))))
      (pss_one (ps_ret (pv 6))))))), ?_⟩
    refine ⟨[], dats_nil, Nat.zero_le _, fun v1 H3 s03 h3 => ⟨_, dats_cons h3 dats_nil, by show 1 ≤ sizeLine; rw [sizeLine_eq]; omega, fun fd H4 nfd a4 l4 => ?_⟩⟩
    have s04 : Same H H4 := s03.trans (a4.same nfd)
    have nf0 : H fd = none := s03.free nfd
    refine ⟨_, rfl, n, rfl, by have := fit.hi; omega, by have := fit.hi; omega, ?_⟩
    rw [Int.toNat_natCast]
    refine for_range (lo := 0) (n := n) (fun t σ H' => ∃ (fd : Addr) (u3 u4 u5 : Option V), σ = [some hv, some (.int n), some (.ref fd), u3, u4, u5, none, none, none] ∧ H fd = none ∧ Same H H' ∧ Ls H' fd (rowsN p.z t))
      ⟨fd, none, none, none, rfl, nf0, s04, l4⟩ ?_ ?_
    · rintro t σ H5 ht ⟨fd, u3, u4, u5, rfl, nf, sm, lf⟩
      have tl : t ≤ n := by omega
      refine ⟨[], dats_nil, Nat.zero_le _, fun lg Bh nlg aB lB => ?_⟩
      have sB : Same H Bh := sm.trans (aB.same nlg)
      have nl0 : H lg = none := sm.free nlg
      have ntl : ∀ xs, Bh lg ≠ some (.tup xs) := lB.ntup
      have nfl : fd ≠ lg := fun z => lf.some (z ▸ nlg)
      obtain ⟨xs, hx, hxs⟩ : Ls Bh fd (rowsN p.z t) := lf.same (aB.same nlg)
      have hlen := dats_len hxs
      rw [List.length_map] at hlen
      have l400 := rows_few ok fit tl
      refine ⟨_, rfl, fd, rfl, ⟨xs, SqL.of hx⟩, for_list (xs := xs) (fun i σ H' => (∃ u5 : Option V, σ = [some hv, some (.int n), some (.ref fd), some (.int (0 + (t : Int))), some (.ref lg), u5, none, none, none]) ∧ Sd lg Bh H' ∧ Ls H' lg (((rowsN p.z t).take i).flatMap fun ss => (allSteps p.z).map fun st => ss ++ [st]))
        ⟨⟨u5, rfl⟩, Sd.refl _, lB⟩ (fun i σ H' _ p => SqL.of (p.2.1 _ _ hx nfl)) ?_ ?_⟩
      · rintro i v σ H6 hv6 ⟨⟨u5, rfl⟩, sd, lL⟩
        obtain ⟨dd, g1, g2⟩ := dats_getV hxs hv6
        rw [List.getElem?_map] at g1
        obtain ⟨x, hxm, rfl⟩ := Option.map_eq_some_iff.mp g1
        have m1 := List.mem_of_getElem? hxm
        have hp6 : Is H6 p.z hv := hp.same (sd_same sB nl0 sd)
        have e1 : Is H6 x v := g2.sd sd ntl
        obtain ⟨lvs, hlv⟩ := lsd_nd lL
        refine ⟨_, rfl, .inl ⟨rfl, _, SqL.of hlv⟩, _, rfl, _, p.z, rfl, hp6, ok.z, fun ll H7 nll s7 l7 => ?_⟩
        obtain ⟨ys, hy, hys⟩ := id l7
        have hlen2 := dats_len hys
        rw [List.length_map] at hlen2
        have k3 := ok.z.len
        have st1 := (rowsN_mem.mp m1).1
        have n6 := fit.hi
        refine ⟨ll, rfl, ⟨ys, SqL.of hy⟩, fun D hD => lc_is walk_list (fun j => (allSteps p.z)[j]?.map fun st => x ++ [st]) (by have := sizeLine_eq; omega) hD (fun H' sm => SqL.of (sm _ _ hy)) (fun j y H8 hy8 _ => ?_) ?_ ?_⟩
        · obtain ⟨dd, k1, k2⟩ := dats_getV hys hy8
          rw [List.getElem?_map] at k1
          obtain ⟨l, hl, rfl⟩ := Option.map_eq_some_iff.mp k1
          rw [hl]
          exact evb_yes
        · intro j y H8 b hy8 s8 hb Q' q'
          obtain ⟨dd, k1, k2⟩ := dats_getV hys hy8
          rw [List.getElem?_map] at k1
          obtain ⟨l, hl, rfl⟩ := Option.map_eq_some_iff.mp k1
          rw [hl] at hb
          cases hb
          refine ⟨_, rfl, _, rfl, [enc l], dats_cons (k2.same s8) dats_nil, by show 1 ≤ sizeLine; rw [sizeLine_eq]; omega, fun u H9 s9 h9 => ⟨_, _, (((e1.same s7).same s8).same s9), h9, by rw [List.length_map, sizeLine_eq]; show x.length + 1 ≤ _; omega, fun u2 H10 s10 h10 => q' u2 _ (s9.trans s10) ?_⟩⟩
          show Dat H10 (NestedKey.tup ((x ++ [l]).map enc)) u2
          rw [List.map_append]
          exact h10
        · intro H8 s8 l8
          have e : ys.length = ((allSteps p.z).map fun st => x ++ [st]).length := by rw [List.length_map]; exact hlen2
          rw [e, outs_map (fun i => (List.getElem?_map ..).symm)] at l8
          have s68 : Same H6 H8 := s7.trans s8
          refine ⟨lg, D, _, _, rfl, rfl, lL.same s68, l8, ?_, fun H9 a9 l9 => ⟨⟨_, rfl⟩, fun b o eb nb => a9.sd b o (s68 _ _ (sd b o eb nb)) nb, ?_⟩⟩
          · rw [List.length_map, List.length_map, List.length_map, sizeLine_eq]
            have q1 := flat_le (f := fun x : List Stp => (allSteps p.z).map fun st => x ++ [st]) (b := 27) (xs := (rowsN p.z t).take i) fun y _ => by
              rw [List.length_map]
              exact k3
            have q3 : ((rowsN p.z t).take i).length ≤ (rowsN p.z t).length := by rw [List.length_take]; omega
            omega
          · rw [flat_take _ hxm]
            exact lsd_app l9
      · rintro σ H6 ⟨⟨u5, rfl⟩, sd, lL⟩
        rw [hlen, List.take_length] at lL
        exact ⟨_, rfl, lg, _, _, _, rfl, nl0, sd_same sB nl0 sd, lL⟩
    · rintro σ H5 ⟨fd, u3, u4, u5, rfl, nf, sm, lf⟩
      refine ⟨[], dats_nil, Nat.zero_le _, fun lg Bh nlg aB lB => ?_⟩
      have sB : Same H Bh := sm.trans (aB.same nlg)
      have nl0 : H lg = none := sm.free nlg
      have ntl : ∀ xs, Bh lg ≠ some (.tup xs) := lB.ntup
      have nfl : fd ≠ lg := fun z => lf.some (z ▸ nlg)
      obtain ⟨xs, hx, hxs⟩ : Ls Bh fd (rowsN p.z n) := lf.same (aB.same nlg)
      have hlen := dats_len hxs
      rw [List.length_map] at hlen
      have l400 := rows_few ok fit (Nat.le_refl n)
      refine ⟨_, rfl, fd, rfl, ⟨xs, SqL.of hx⟩, for_list (xs := xs) (fun i σ H' => (∃ u3 u4 u5 : Option V, σ = [some hv, some (.int n), some (.ref fd), u3, u4, u5, some (.ref lg), none, none]) ∧ Sd lg Bh H' ∧ Ls H' lg (((rowsN p.z n).take i).flatMap fun ss => (List.range p.z.m).map fun l => ((ss, l) : Day)))
        ⟨⟨u3, u4, u5, rfl⟩, Sd.refl _, lB⟩ (fun i σ H' _ p => SqL.of (p.2.1 _ _ hx nfl)) ?_ ?_⟩
      · rintro i v σ H6 hv6 ⟨⟨u3, u4, u5, rfl⟩, sd, lL⟩
        obtain ⟨dd, g1, g2⟩ := dats_getV hxs hv6
        rw [List.getElem?_map] at g1
        obtain ⟨x, hxm, rfl⟩ := Option.map_eq_some_iff.mp g1
        have hp6 : Is H6 p.z hv := hp.same (sd_same sB nl0 sd)
        have e1 : Is H6 x v := g2.sd sd ntl
        obtain ⟨lvs, hlv⟩ := lsd_nd lL
        have zm := ok.m.2
        refine ⟨_, rfl, .inl ⟨rfl, _, SqL.of hlv⟩, _, rfl, _, 2, _, hp6, rfl, rfl, fun v7 h7 => ?_⟩
        rw [dat_num] at h7
        subst h7
        refine ⟨p.z.m, rfl, by omega, by omega, fun D hD => ?_⟩
        rw [Int.toNat_natCast]
        refine lc_is walk_rng (fun k => if k < p.z.m then some ((x, k) : Day) else none) (by rw [rngV_len, sizeLine_eq]; omega) hD (fun _ _ => trivial) (fun k y H8 hy8 _ => ?_) ?_ ?_
        · rw [if_pos (rngV_get hy8).1]
          exact evb_yes
        · intro k y H8 b hy8 s8 hb Q' q'
          obtain ⟨hk, rfl⟩ := rngV_get hy8
          rw [if_pos hk] at hb
          cases hb
          exact ⟨_, rfl, _, rfl, _, dats_cons (e1.same s8) (dats_cons (d := .num (k : Nat)) (dat_num.mpr rfl) dats_nil), by show 2 ≤ sizeLine; rw [sizeLine_eq]; omega, fun u H9 s9 h9 => q' u _ s9 h9⟩
        · intro H8 s8 l8
          have e : outs (fun k => if k < p.z.m then some ((x, k) : Day) else none) (rngV p.z.m).length = (List.range p.z.m).map fun l => ((x, l) : Day) := by
            have e1 : (rngV p.z.m).length = ((List.range p.z.m).map fun l => ((x, l) : Day)).length := by rw [rngV_len]; simp
            rw [e1]
            refine outs_map fun k => ?_
            by_cases hk : k < p.z.m
            · rw [if_pos hk, List.getElem?_map, List.getElem?_range hk]
              rfl
            · rw [if_neg hk, List.getElem?_eq_none (by simp; omega)]
          rw [e] at l8
          refine ⟨lg, D, _, _, rfl, rfl, lL.same s8, l8, ?_, fun H9 a9 l9 => ⟨⟨_, _, _, rfl⟩, fun b o eb nb => a9.sd b o (s8 _ _ (sd b o eb nb)) nb, ?_⟩⟩
          · rw [List.length_map, List.length_map, List.length_map, sizeLine_eq]
            have q1 := flat_le (f := fun x : List Stp => (List.range p.z.m).map fun l => ((x, l) : Day)) (b := 3) (xs := (rowsN p.z n).take i) fun y _ => by
              rw [List.length_map, List.length_range]
              exact zm
            have q3 : ((rowsN p.z n).take i).length ≤ (rowsN p.z n).length := by rw [List.length_take]; omega
            rw [List.length_range]
            omega
          · rw [flat_take _ hxm]
            exact lsd_app l9
      · rintro σ H6 ⟨⟨u3, u4, u5, rfl⟩, sd, lL⟩
        rw [hlen, List.take_length] at lL
        exact ⟨_, rfl, q lg H6 nl0 (sd_same sB nl0 sd) lL⟩
end
end Fd

/-! Who can still end the day. -/
namespace Fd
open PySem PySem.Spec PyProof.Rows L2
open Enc (enc)
abbrev s_alive_layers : Stmt := topS 27
theorem sc_alive_layers : FnScope ["office", "many", "layers", "turn", "layer", "at", "row", "move"] ["office", "many"] (defScope s_alive_layers) := ⟨rfl, rfl, rfl, by decide +kernel, rfl, by decide +kernel, by decide +kernel⟩
theorem dc_it {J : It} {n : Nat} {G : Hp → Prop} {Y : Nat → Hp → V → Hp → Prop} (w : Walk J n G Y) {g : TG} {tt : TT} {tk tv : TE} {vs : List Nat} {σ : L2.St} {H1 : Hp} {D : Addr} {Qd : Hp → Prop} (Pv : Nat → Hp → Prop) (h0 : Pv 0 (upd H1 D (.dK []))) (hG : ∀ i H, i ≤ n → Pv i H → G H)
    (hs : ∀ i x H H', i < n → Pv i H → Y i H x H' → g x (wipe σ vs) H' fun σ2 H2 => wipe σ2 vs = wipe σ vs ∧ tt σ2 H2 fun b H3 =>
      if b = true then tk σ2 H3 fun y H4 => tv σ2 H4 fun z H5 => ∃ kvs k, y = kV k ∧ H5 D = some (.dK kvs) ∧ kvs.length < sizeLine ∧ Pv (i + 1) (upd H5 D (.dK (putK kvs k z))) else Pv (i + 1) H3) (hd : ∀ H, Pv n H → Qd H) :
    ∃ W : Nat → Nat → Hp → Prop, (∃ m, W 0 m (upd H1 D (.dK []))) ∧ ∀ i m H, W i m H →
      (J.stop i H ∧ Qd H) ∨ (J.go i H ∧ ∃ Nx : Hp → Prop, (∀ H', Nx H' → ∃ m', m' < m ∧ W (i + 1) m' H') ∧ ∀ x H', J.yld i H x H' → g x (wipe σ vs) H' fun σ2 H2 => wipe σ2 vs = wipe σ vs ∧ tt σ2 H2 fun b H3 =>
        if b = true then tk σ2 H3 fun y H4 => tv σ2 H4 fun z H5 => ∃ kvs k, y = kV k ∧ H5 D = some (.dK kvs) ∧ kvs.length < sizeLine ∧ Nx (upd H5 D (.dK (putK kvs k z))) else Nx H3) := by
  refine ⟨fun i m H => m = n - i ∧ i ≤ n ∧ Pv i H, ⟨n, by simp, Nat.zero_le _, h0⟩, ?_⟩
  rintro i m H ⟨rfl, hi, p⟩
  have q := hG i H hi p
  by_cases hlt : i < n
  · refine .inr ⟨w.goes i H hlt q, Pv (i + 1), fun H' p' => ⟨n - (i + 1), by omega, rfl, hlt, p'⟩, fun x H' y => hs i x H H' hlt p (w.yields i H x H' hlt q y)⟩
  · have e : i = n := by omega
    subst e
    exact .inl ⟨w.stops H q, hd H p⟩
/-- at d the numbers below n with f, as keys -/
def Lay (H : Hp) (d : Addr) (n : Nat) (f : Nat → Bool) : Prop := ∃ kvs : List (Key × V), H d = some (HO.dK kvs) ∧ kvs.length ≤ n ∧ ∀ g : Nat, (valV kvs (kI g)).isSome = (decide (g < n) && f g)
theorem Lay.at {H H' : Hp} {d : Addr} {n : Nat} {f : Nat → Bool} (h : Lay H d n f) (e : H' d = H d) : Lay H' d n f := by
  obtain ⟨kvs, a, b⟩ := h
  exact ⟨kvs, e.trans a, b⟩
theorem Lay.same {H H' : Hp} {d : Addr} {n : Nat} {f : Nat → Bool} (h : Lay H d n f) (s : Same H H') : Lay H' d n f := by
  obtain ⟨kvs, a, b⟩ := h
  exact ⟨kvs, s _ _ a, b⟩
theorem Lay.sd {H H' : Hp} {d z : Addr} {n : Nat} {f : Nat → Bool} (h : Lay H d n f) (ne : d ≠ z) (s : Sd z H H') : Lay H' d n f := by
  obtain ⟨kvs, a, b⟩ := h
  exact ⟨kvs, s _ _ a ne, b⟩
theorem Lay.is {H : Hp} {d : Addr} {n : Nat} {f : Nat → Bool} (h : Lay H d n f) : ∃ kvs : List (Key × V), H d = some (HO.dK kvs) := by
  obtain ⟨kvs, a, _⟩ := h
  exact ⟨kvs, a⟩
theorem lay_skip {H : Hp} {d : Addr} {n : Nat} {f : Nat → Bool} (h : Lay H d n f) (e : f n = false) : Lay H d (n + 1) f := by
  obtain ⟨kvs, a, b, c⟩ := h
  refine ⟨kvs, a, by omega, fun g => ?_⟩
  rw [c g]
  by_cases hg : g = n
  · subst hg
    rw [e, Bool.and_false, Bool.and_false]
  · have e2 : decide (g < n) = decide (g < n + 1) := decide_eq_decide.mpr (by omega)
    rw [e2]
theorem lay_put {H : Hp} {d : Addr} {n : Nat} {f : Nat → Bool} {kvs : List (Key × V)} {v : V} (b : kvs.length ≤ n) (c : ∀ g : Nat, (valV kvs (kI g)).isSome = (decide (g < n) && f g)) (e : f n = true) : Lay (upd H d (.dK (putK kvs (kI n) v))) d (n + 1) f := by
  refine ⟨_, upd_same, by have := length_putK kvs (kI n) v; omega, fun g => ?_⟩
  rw [valV_put]
  by_cases hg : g = n
  · subst hg
    rw [if_pos rfl, e, decide_eq_true (by omega)]
    rfl
  · rw [if_neg (fun z => hg (kI_inj z)), c g]
    have e2 : decide (g < n) = decide (g < n + 1) := decide_eq_decide.mpr (by omega)
    rw [e2]
/-- at l the layers below t -/
def LayL (H : Hp) (l : Addr) (t : Nat) (p : Pts) : Prop := ∃ refs : List V, H l = some (HO.lst refs) ∧ refs.length = t ∧ ∀ j, j < t → ∃ d : Addr, refs[j]? = some (V.ref d) ∧ d ≠ l ∧ Lay H d p.mv.length (alive p j)
theorem LayL.same {H H' : Hp} {l : Addr} {t : Nat} {p : Pts} (h : LayL H l t p) (s : Same H H') : LayL H' l t p := by
  obtain ⟨refs, a, b, c⟩ := h
  refine ⟨refs, s _ _ a, b, fun j hj => ?_⟩
  obtain ⟨d, e1, e2, e3⟩ := c j hj
  exact ⟨d, e1, e2, e3.same s⟩
theorem LayL.sd {H H' : Hp} {l z : Addr} {t : Nat} {p : Pts} (h : LayL H l t p) (n : H z = none) (s : Same H H') : LayL H' l t p := h.same s
section
variable {P : Program} {w : World} {K : PySem.W.Frag} {mg : Str → Option Value} {base : Heap}
def spAlive (P : Program) (w : World) (C : Addr) : Sp := fun vs H Q _ => ∃ (x : Addr) (p : Pts) (n : Nat), vs = [.ref x, .int n] ∧ Off P w C H x p.z p.mv p.cl ∧ PtsOk p ∧ n ≤ 6 ∧ ∀ l H', H l = none → Same H H' → LayL H' l (n + 1) p → Q (.ref l) H'
theorem ok_alive_layers {C : Addr} (T : TxtO K mg C) (B : Bi mg) (d : Df K mg "alive_layers" "alive_layers" s_alive_layers ["office", "many"]) : Ok P w K mg base 1 "alive_layers" ["office", "many"] (spAlive P w C) := by
  refine d.ok sc_alive_layers (fun vs H Q E h => ?_) (fun f cdv A outer s H vs Q E hr h => ?_)
  · obtain ⟨x, p, n, rfl, _⟩ := h
    rfl
  · obtain ⟨x, p, n, rfl, off, ok, n6, q⟩ := h
    refine ⟨_, (pss_cons (pss 2 sc_alive_layers.nd (pe_lst (pa_cons (pe_dc (own := [("at", 5)]) rfl sc_alive_layers.nd (pi_range1 rfl B.range (pa_cons (pe_callB cr_lenD (by rfl) B.len (by decide +kernel) (pa_cons (pe_fld (pv 0) rfl) pa_nil)) pa_nil)) (blkOk_by (N := ["office", "many", "layers", "turn", "layer", "at", "row", "move"]) (sc := defScope s_alive_layers) (by decide +kernel)) (fun _ _ _ _ _ => (pgn 5 sc_alive_layers.nd)) (fun _ _ _ _ _ => (pts_one (pt_cmpR op_gt (pe_callB (cr_lenDK K rfl) (by rfl) B.len (by decide +kernel) (pa_cons (pe_ix ix_dat (pe_fldK K rfl (pv 0) (by rfl)) (pv 5) (fun _ _ => rfl)) pa_nil)) pe_int (nomark _)))) (fun _ _ _ _ _ => (pv 5)) (fun _ _ _ _ _ => pe_bl)) pa_nil)))
      (pss_cons (ps_for PassesOwn.never rfl (pi_range1 rfl B.range (pa_cons (pv 1) pa_nil)) (pgn 3 sc_alive_layers.nd)
        (pss_cons (pss 4 sc_alive_layers.nd pe_dnewK)
        (pss_cons (ps_for PassesOwn.never rfl (pi_enumT rfl B.enumerate (pa_cons (pe_fld (pv 0) rfl) pa_nil)) (pg_tup rfl (pgs_cons (pgn 5 sc_alive_layers.nd) (pgs_cons (pgn 6 sc_alive_layers.nd) pgs_nil)))
          (pss_one (ps_if (pt_val (pe_callB (cr_any rfl) (by rfl) B.any (by decide +kernel) (pa_cons (pe_lc (own := [("move", 7)]) rfl sc_alive_layers.nd (pi_tup (pv 6)) (blkOk_by (N := ["office", "many", "layers", "turn", "layer", "at", "row", "move"]) (sc := defScope s_alive_layers) (by decide +kernel)) (fun _ _ _ _ _ => (pgn 7 sc_alive_layers.nd)) (fun _ _ _ _ _ => pts_nil) (fun _ _ _ _ _ => (pe_cmp (pc_din (hu_of hr) (pe_ix ix_dat (pv 7) pe_int (fun _ _ => rfl)) (pe_ix (ix_listK K rfl) (pv 2) (pe_un un_neg pe_int) (fun _ _ => rfl)))))) pa_nil)))
            (pss_one (ps_dput (hu_of hr) (pv 4) (pv 5) pe_bl rfl))
            pss_nil)))
        (pss_one (ps_expr (pe_bm PySem.F.plainAttrs_list PySem.F.slot_list_append PySem.F.type_list_append mt_append (pv 2) (pa_cons (pv 4) pa_nil)))))))
      (pss_one (ps_ret (pv 2))))), ?_⟩
    have m6 := ok.mv.1.2
    obtain ⟨dx, fs, v1, v2, v3, lk, refs, h1, h2, h3, h4, h5, h6, h7, h8, h9, h10, h11⟩ := off.ex
    refine ⟨_, rfl, x, C, dx, fs, v2, rfl, h1, T.cl, T.nM, h3, _, _, rfl, .inl h7, p.mv.length, by rw [List.length_map], by omega, by omega, fun D hD => ?_⟩
    rw [Int.toNat_natCast]
    refine dc_it walk_rng (fun i H' => Same H H' ∧ Lay H' D i (alive p 0)) ⟨same_new hD, [], upd_same, Nat.le_refl 0, fun g => rfl⟩ (fun _ _ _ _ => trivial) ?_ ?_
    · rintro i y H1 H1' hi ⟨sm, lay⟩ ⟨rfl, hy⟩
      obtain ⟨hi2, rfl⟩ := rngV_get hy
      have hcl : i < p.cl.length := by
        rw [ok.len]
        exact hi2
      refine ⟨wipe_one, ?_⟩
      obtain ⟨kvs, k1, k2, k3⟩ := id lay
      refine ⟨_, rfl, x, C, dx, fs, v3, rfl, sm _ _ h1, T.cl, T.nC, h4, _, rfl, _, i, enc (p.cl.getD i []), h8.same sm, rfl, ?_, fun v5 h5 => ?_⟩
      · rw [List.getElem?_map, getD_get hcl]
        rfl
      refine ⟨_, _, rfl, .inl h5, _, _, rfl, rfl, _, rfl, ?_⟩
      have e : decide ((0 : Int) < ((((p.cl.getD i []).map enc).length : Nat) : Int)) = alive p 0 i := by
        show _ = decide (0 < (p.cl.getD i []).length)
        rw [List.length_map]
        exact decide_eq_decide.mpr (by omega)
      show (if decide ((0 : Int) < ((((p.cl.getD i []).map enc).length : Nat) : Int)) = true then _ else _)
      rw [e]
      cases ha : alive p 0 i with
      | true =>
        refine iteT ⟨_, rfl, kvs, kI i, rfl, k1, by rw [sizeLine_eq]; omega, ?_, lay_put k2 k3 ha⟩
        exact At1.sameOf sm at1_upd hD
      | false => exact iteF ⟨sm, lay_skip lay ha⟩
    · rintro H1 ⟨sm, lay⟩
      rw [rngV_len] at lay
      refine ⟨by show 1 ≤ sizeLine; rw [sizeLine_eq]; omega, fun l nl => ?_⟩
      have nDl : D ≠ l := fun z => by
        obtain ⟨kvs, e⟩ := lay.is
        rw [z, nl] at e
        cases e
      have nl0 : H l = none := sm.free nl
      refine ⟨_, rfl, n, rfl, by omega, by omega, ?_⟩
      rw [Int.toNat_natCast]
      refine for_range (lo := 0) (n := n) (fun t σ H' => (∃ u3 u4 u5 u6 : Option V, σ = [some (.ref x), some (.int n), some (.ref l), u3, u4, u5, u6, none]) ∧ Same H H' ∧ LayL H' l (t + 1) p)
        ⟨⟨none, none, none, none, rfl⟩, sm.trans (same_new nl), [.ref D], upd_same, rfl, fun j hj => ?_⟩ ?_ ?_
      · have e : j = 0 := by omega
        subst e
        exact ⟨D, rfl, nDl, lay.same (same_new nl)⟩
      · rintro t σ H2 ht ⟨⟨u3, u4, u5, u6, rfl⟩, sm2, ll⟩
        refine fun d nd => ?_
        have sB : Same H (upd H2 d (.dK [])) := sm2.trans (same_new nd)
        have nd0 : H d = none := sm2.free nd
        obtain ⟨lrefs, hl, hll, each⟩ := id ll
        have nld : l ≠ d := fun z => by
          rw [z, nd] at hl
          cases hl
        generalize hBh : upd H2 d (.dK []) = Bh at *
        have bd : Bh d = some (.dK []) := by
          rw [← hBh]
          exact upd_same
        have ntd : ∀ xs, Bh d ≠ some (.tup xs) := fun xs z => by
          rw [bd] at z
          cases z
        have s2B : Same H2 Bh := by
          rw [← hBh]
          exact same_new nd
        have hlB : Bh l = some (.lst lrefs) := s2B _ _ hl
        obtain ⟨dt, ht1, ht2, ht3⟩ := each t (by omega)
        have ndt : dt ≠ d := fun z => by
          obtain ⟨kvs, e⟩ := ht3.is
          rw [z, nd] at e
          cases e
        have htB : Lay Bh dt p.mv.length (alive p t) := ht3.same s2B
        have i7 : Is Bh p.mv v2 := h7.same sB
        obtain ⟨a, xs, rfl, ha, hxs⟩ := dat_tup.mp i7
        have hlen := dats_len hxs
        rw [List.length_map] at hlen
        refine ⟨_, rfl, x, C, dx, fs, _, rfl, sB _ _ h1, T.cl, T.nM, h3, a, xs, rfl, SqT.of ha, ?_⟩
        refine for_it walk_enumT (fun i σ H' => (∃ u5 u6 : Option V, σ = [some (.ref x), some (.int n), some (.ref l), some (.int (0 + (t : Int))), some (.ref d), u5, u6, none]) ∧ Sd d Bh H' ∧ Lay H' d i (alive p (t + 1)))
          ⟨⟨u5, u6, rfl⟩, Sd.refl _, [], bd, Nat.le_refl 0, fun g => rfl⟩ (fun i σ H' _ p => SqT.of (p.2.1 _ _ ha fun z => ntd xs (z ▸ ha))) ?_ ?_
        · rintro i v σ H3 H3' hi ⟨⟨u5, u6, rfl⟩, sd, lay3⟩ ⟨Tt, x1, y1, rfl, nT, rfl, ex, hy⟩
          have ex' : x1 = .int i := (Option.some.inj ex).symm
          subst ex'
          obtain ⟨dd, g1, g2⟩ := dats_getV hxs hy
          rw [List.getElem?_map] at g1
          obtain ⟨row, hrow, rfl⟩ := Option.map_eq_some_iff.mp g1
          obtain ⟨r1, r2, r3⟩ := ok.mv.2 row (List.mem_of_getElem? hrow)
          have s34 : Same H3 (upd H3 Tt (.tup [.int i, y1])) := same_new nT
          refine ⟨Tt, _, rfl, SqT.of upd_same, rfl, _, _, rfl, _, _, rfl, rfl, ?_⟩
          generalize hH4 : upd H3 Tt (.tup [.int i, y1]) = H4 at *
          have sd4 : Sd d Bh H4 := sd.trans (Same.sd s34)
          have hr4 : Is H4 row y1 := g2.sd sd4 ntd
          obtain ⟨b, ys, rfl, hb, hys⟩ := dat_tup.mp hr4
          have hl2 := dats_len hys
          rw [List.length_map] at hl2
          have lay4 := lay3.same s34
          refine ⟨_, rfl, b, rfl, ⟨ys, SqT.of hb⟩, fun D2 hD2 => lc_val walk_tup (fun j => row[j]?.map fun m => V.bl (alive p t m.g)) (by have := sizeLine_eq; omega) hD2 (fun H' sm => SqT.of (sm _ _ hb)) (fun j y H5 hy5 _ => ?_) ?_ ?_⟩
          · obtain ⟨dd, k1, k2⟩ := dats_getV hys hy5
            rw [List.getElem?_map] at k1
            obtain ⟨m, hm, rfl⟩ := Option.map_eq_some_iff.mp k1
            rw [hm]
            exact evb_yes
          · intro j y H5 bb hy5 s5 hb5 Q' q'
            obtain ⟨dd, k1, k2⟩ := dats_getV hys hy5
            rw [List.getElem?_map] at k1
            obtain ⟨m, hm, rfl⟩ := Option.map_eq_some_iff.mp k1
            rw [hm] at hb5
            cases hb5
            refine ⟨_, rfl, _, 3, _, k2.same s5, rfl, rfl, fun v7 h7' => ?_⟩
            have h8' := dat_num.mp h7'
            subst h8'
            have sd5 : Sd d Bh H5 := sd4.trans (Same.sd s5)
            obtain ⟨kvt, t1, t2, t3⟩ := htB.sd ndt sd5
            refine ⟨_, rfl, _, rfl, l, lrefs, _, _, rfl, rfl, SqL.of (sd5 _ _ hlB nld), ?_, dt, _, rfl, DGet.k (k := kI m.g) t1, q' _ _ (Same.refl _) ?_⟩
            · obtain ⟨lr, last, rfl⟩ : ∃ lr last, lrefs = lr ++ [last] := by
                rcases List.eq_nil_or_concat lrefs with e | ⟨lr, last, e⟩
                · rw [e] at hll
                  simp at hll
                · exact ⟨lr, last, by rw [e, List.concat_eq_append]⟩
              have e : last = .ref dt := by
                have e1 : lr.length = t := by
                  simp at hll
                  exact hll
                rw [List.getElem?_append_right (by omega), e1, Nat.sub_self] at ht1
                exact Option.some.inj ht1
              subst e
              exact atI_last lr _
            · show V.bl (valV kvt (kI m.g)).isSome = V.bl (alive p t m.g)
              rw [t3, decide_eq_true (r1 m (List.mem_of_getElem? hm)).2.2.2]
              rfl
          · intro H5 s5 hD5
            have e : ys.length = (row.map fun m => V.bl (alive p t m.g)).length := by rw [List.length_map]; exact hl2
            rw [e, outs_map (fun i => (List.getElem?_map ..).symm)] at hD5
            have e2 : (row.map fun m => V.bl (alive p t m.g)) = (row.map fun m => alive p t m.g).map V.bl := by rw [List.map_map]; rfl
            rw [e2] at hD5
            refine ⟨D2, _, rfl, SqL.of hD5, _, rfl, ?_⟩
            have e3 : (row.map fun m => alive p t m.g).any id = alive p (t + 1) i := by
              rw [any_flags]
              show _ = (p.mv.getD i []).any fun m => alive p t m.g
              rw [List.getD_eq_getElem?_getD, hrow]
              rfl
            rw [e3]
            have sd5 : Sd d Bh H5 := sd4.trans (Same.sd s5)
            obtain ⟨kvs, k1, k2, k3⟩ := lay4.same s5
            have hi2 := (List.getElem?_eq_some_iff.mp hrow).1
            cases hal : alive p (t + 1) i with
            | true => exact iteT ⟨_, rfl, _, rfl, d, _, rfl, DPut.k (k := kI i) k1 (by rw [sizeLine_eq]; omega), ⟨_, _, rfl⟩, sd5.trans sd_upd, lay_put k2 k3 hal⟩
            | false => exact iteF ⟨⟨_, _, rfl⟩, sd5, lay_skip (lay4.same s5) hal⟩
        · rintro σ H3 ⟨⟨u5, u6, rfl⟩, sd, lay3⟩
          rw [hlen] at lay3
          have s3 : Same H H3 := sd_same sB nd0 sd
          have hl3 : H3 l = some (.lst lrefs) := sd _ _ hlB nld
          refine ⟨_, rfl, .inl ⟨rfl, _, SqL.of hl3⟩, _, rfl, l, lrefs, .ref d, rfl, rfl, hl3, by rw [sizeLine_eq]; omega, ⟨_, _, _, _, rfl⟩, At1.sameOf s3 at1_upd nl0, lrefs ++ [.ref d], upd_same, by simp [hll], fun j hj => ?_⟩
          by_cases hj2 : j < t + 1
          · obtain ⟨dj, j1, j2, j3⟩ := each j hj2
            have ndj : dj ≠ d := fun z => by
              obtain ⟨kvs, e⟩ := j3.is
              rw [z, nd] at e
              cases e
            refine ⟨dj, by rw [List.getElem?_append_left (by omega)]; exact j1, j2, ?_⟩
            exact ((j3.same s2B).sd ndj sd).sd j2 sd_upd
          · have e : j = t + 1 := by omega
            subst e
            refine ⟨d, by rw [List.getElem?_append_right (by omega), hll, Nat.sub_self]; rfl, fun z => nld z.symm, lay3.sd (fun z => nld z.symm) sd_upd⟩
      · rintro σ H2 ⟨⟨u3, u4, u5, u6, rfl⟩, sm2, ll⟩
        exact ⟨_, rfl, q l H2 nl0 sm2 ll⟩
end
end Fd

/-! The office's days. -/
namespace Fd
open PySem PySem.Spec PyProof.Rows L2
open Enc (enc)
abbrev s_begins_of : Stmt := topS 28
theorem sc_begins_of : FnScope ["office", "many", "most", "layers", "found", "left", "longer", "steps", "standings", "step", "goals", "goal"] ["office", "many", "most"] (defScope s_begins_of) := ⟨rfl, rfl, rfl, by decide +kernel, rfl, by decide +kernel, by decide +kernel⟩
abbrev s_days_of : Stmt := topS 29
theorem sc_days_of : FnScope ["office", "many", "most", "found", "steps", "standings", "last"] ["office", "many", "most"] (defScope s_days_of) := ⟨rfl, rfl, rfl, by decide +kernel, rfl, by decide +kernel, by decide +kernel⟩
theorem fm_filter {α : Type} (f : α → Bool) (xs : List α) : (xs.filterMap fun g => if f g = true then some g else none) = xs.filter f := by
  rw [← List.filterMap_eq_filter]
  refine fm_congr fun g _ => ?_
  unfold Option.guard
  rfl
theorem tif_of {ta tb : TE} {σ : L2.St} {H : Hp} {Q : VK} {c : Bool} (R : V → Hp → Prop) (a : c = true → ∀ Q' : VK, (∀ v H', R v H' → Q' v H') → ta σ H Q') (b : c = false → ∀ Q' : VK, (∀ v H', R v H' → Q' v H') → tb σ H Q') (h : ∀ v H', R v H' → Q v H') : if c = true then ta σ H Q else tb σ H Q := by
  cases c with
  | true => exact iteT (a rfl Q h)
  | false => exact iteF (b rfl Q h)
section
variable {P : Program} {w : World} {K : PySem.W.Frag} {mg : Str → Option Value} {base : Heap}
def spBegins (P : Program) (w : World) (C : Addr) : Sp := fun vs H Q _ => ∃ (x : Addr) (p : Pts) (n : Nat), vs = [.ref x, .int n, .int 2000] ∧ Off P w C H x p.z p.mv p.cl ∧ PtsOk p ∧ Fits p n ∧ ∀ l H', H l = none → Same H H' → Ls H' l (beginsP p n n) → Q (.ref l) H'
theorem ok_begins_of {C : Addr} (T : TxtO K mg C) (B : Bi mg) (o_alive_layers : Ok P w K mg base 1 "alive_layers" ["office", "many"] (spAlive P w C)) (o_all_steps : Ok P w K mg base 1 "all_steps" ["office"] (spAllSteps P w C))
    (o_goals_of : Ok P w K mg base 1 "goals_of" ["office", "standings", "step"] (spGoals P w C)) (d : Df K mg "begins_of" "begins_of" s_begins_of ["office", "many", "most"]) : Ok P w K mg base 2 "begins_of" ["office", "many", "most"] (spBegins P w C) := by
  refine d.ok sc_begins_of (fun vs H Q E h => ?_) (fun f cdv A outer s H vs Q E hr h => ?_)
  · obtain ⟨x, p, n, rfl, _⟩ := h
    rfl
  · obtain ⟨x, p, n, rfl, off, ok, fit, q⟩ := h
    refine ⟨_, (pss_cons (pss 3 sc_begins_of.nd (pe_fn o_alive_layers hr (pa_cons (pv 0) (pa_cons (pv 1) pa_nil))))
      (pss_cons (pss 4 sc_begins_of.nd (pe_ifExp (pt_cmp (pc_din (hu_of hr) pe_int (pe_ix ix_list (pv 3) (pv 1) (fun _ _ => rfl)))) (pe_lstD (pa_cons (pe_tupD (pa_cons (pe_tupD pa_nil) (pa_cons (pe_tupD (pa_cons pe_int pa_nil)) pa_nil))) pa_nil)) (pe_lstD pa_nil)))
      (pss_cons (ps_for PassesOwn.never rfl (pi_range3 rfl B.range (pa_cons (pe_op op_sub (pv 1) pe_int) (pa_cons (pe_un un_neg pe_int) (pa_cons (pe_un un_neg pe_int) pa_nil)))) (pgn 5 sc_begins_of.nd)
        (pss_cons (pss 6 sc_begins_of.nd (pe_lstD pa_nil))
        (pss_cons (ps_for PassesOwn.never rfl (pi_list (pv 4)) (pg_tupD rfl (pgs_cons (pgn 7 sc_begins_of.nd) (pgs_cons (pgn 8 sc_begins_of.nd) pgs_nil)))
          (pss_one (ps_for PassesOwn.never rfl (pi_list (pe_fn o_all_steps hr (pa_cons (pv 0) pa_nil))) (pgn 9 sc_begins_of.nd)
            (pss_cons (pss 10 sc_begins_of.nd (pe_callTy cr_tupD (by rfl) B.tuple (by decide +kernel) (pa_cons (pe_lc (own := [("goal", 11)]) rfl sc_begins_of.nd (pi_tup (pe_fn o_goals_of hr (pa_cons (pv 0) (pa_cons (pv 8) (pa_cons (pv 9) pa_nil))))) (blkOk_by (N := ["office", "many", "most", "layers", "found", "left", "longer", "steps", "standings", "step", "goals", "goal"]) (sc := defScope s_begins_of) (by decide +kernel)) (fun _ _ _ _ _ => (pgn 11 sc_begins_of.nd)) (fun _ _ _ _ _ => (pts_one (pt_cmp (pc_din (hu_of hr) (pv 11) (pe_ix (ix_listK K rfl) (pv 3) (pv 5) (fun _ _ => rfl)))))) (fun _ _ _ _ _ => (pv 11))) pa_nil)))
            (pss_one (ps_if (pt_cmpR op_gt (pe_callB cr_lenD (by rfl) B.len (by decide +kernel) (pa_cons (pv 10) pa_nil)) pe_int (nomark _))
              (pss_one (ps_expr (pe_bm PySem.F.plainAttrs_list PySem.F.slot_list_append PySem.F.type_list_append mt_appD (pv 6) (pa_cons (pe_tupD (pa_cons (pe_op op_catD (pv 7) (pe_tupD (pa_cons (pv 9) pa_nil))) (pa_cons (pv 10) pa_nil))) pa_nil))))
              pss_nil))))))
        (pss_cons (ps_if (pt_cmpR op_gt (pe_callB cr_lenD (by rfl) B.len (by decide +kernel) (pa_cons (pv 6) pa_nil)) (pv 2) (nomark _))
          (pss_one ps_never)
          pss_nil)
        (pss_one (pss 4 sc_begins_of.nd (pv 6)))))))
      (pss_one (ps_ret (pv 4)))))), ?_⟩
    have n1 := fit.lo
    have n6 := fit.hi
    have m16 := ok.mv.1
    refine ⟨_, rfl, _, rfl, x, p, n, rfl, off, ok, n6, fun l H1 nl s1 ll => ?_⟩
    have off1 := off.same s1
    obtain ⟨lrefs, hl, hll, each⟩ := id ll
    obtain ⟨dn, dn1, dn2, kvn, dn3, dn4, dn5⟩ := each n (by omega)
    refine ⟨_, rfl, _, rfl, l, lrefs, _, _, rfl, rfl, SqL.of hl, atI_nat dn1, dn, _, rfl, DGet.k (k := kI 0) dn3, _, rfl, ?_⟩
    have e0 : (valV kvn (kI 0)).isSome = alive p n 0 := by
      rw [dn5, decide_eq_true (by omega)]
      rfl
    refine tif_of (fun v H' => ∃ fd, v = .ref fd ∧ H1 fd = none ∧ Same H1 H' ∧ Ls H' fd (beginsP p n 0)) (fun hc Q' q' => ?_) (fun hc Q' q' => ?_) ?_
    · have ha : alive p n 0 = true := e0.symm.trans hc
      refine ⟨[], dats_nil, Nat.zero_le _, fun v1 H2 s2 h2 => ⟨[.num 0], dats_cons (dat_num.mpr rfl) dats_nil, by show 1 ≤ sizeLine; rw [sizeLine_eq]; omega, fun v2 H3 s3 h3 => ?_⟩⟩
      refine ⟨_, dats_cons (h2.same s3) (dats_cons h3 dats_nil), by show 2 ≤ sizeLine; rw [sizeLine_eq]; omega, fun v3 H4 s4 h4 => ⟨_, dats_cons h4 dats_nil, by show 1 ≤ sizeLine; rw [sizeLine_eq]; omega, fun fd H5 nfd a5 l5 => ?_⟩⟩
      have s14 := (s2.trans s3).trans s4
      refine q' _ _ ⟨fd, rfl, s14.free nfd, s14.trans (a5.same nfd), ?_⟩
      have e : beginsP p n 0 = [([], [0])] := if_pos ha
      rw [e]
      exact l5
    · have ha : alive p n 0 = false := e0.symm.trans hc
      refine ⟨[], dats_nil, Nat.zero_le _, fun fd H5 nfd a5 l5 => q' _ _ ⟨fd, rfl, nfd, a5.same nfd, ?_⟩⟩
      have e : beginsP p n 0 = [] := if_neg (by rw [ha]; exact Bool.false_ne_true)
      rw [e]
      exact l5
    rintro v0 H4 ⟨fd, rfl, nf0, s04, l4⟩
    refine ⟨_, rfl, _, _, rfl, rfl, _, rfl, _, rfl, (n : Int) - 1, -1, -1, n, rfl, ?_, ?_⟩
    · have := RgC.neg (i := (n : Int) - 1) (j := -1) (by omega) (by omega) (by omega) (by omega)
      rwa [show ((n : Int) - 1 - -1).toNat = n by omega] at this
    refine for_rangeC (lo := (n : Int) - 1) (c := -1) (n := n) (fun k σ H' => ∃ (fd : Addr) (u5 u6 u7 u8 u9 u10 : Option V), σ = [some (.ref x), some (.int n), some (.int 2000), some (.ref l), some (.ref fd), u5, u6, u7, u8, u9, u10, none] ∧ H1 fd = none ∧ Same H1 H' ∧ Ls H' fd (beginsP p n k))
      ⟨fd, none, none, none, none, none, none, rfl, nf0, s04, l4⟩ ?_ ?_
    · rintro t σ H5 ht ⟨fd, u5, u6, u7, u8, u9, u10, rfl, nf, sm, lf⟩
      have tl : t ≤ n := by omega
      have left : (n : Int) - 1 + ((t : Nat) : Int) * -1 = ((n - (t + 1) : Nat) : Int) := by omega
      obtain ⟨dl, dl1, dl2, dl3⟩ := each (n - (t + 1)) (by omega)
      refine ⟨[], dats_nil, Nat.zero_le _, fun lg Bh nlg aB lB => ?_⟩
      have sB : Same H1 Bh := sm.trans (aB.same nlg)
      have nl0 : H1 lg = none := sm.free nlg
      have ntl : ∀ xs, Bh lg ≠ some (.tup xs) := lB.ntup
      have nfl : fd ≠ lg := fun z => lf.some (z ▸ nlg)
      obtain ⟨xs, hx, hxs⟩ : Ls Bh fd (beginsP p n t) := lf.same (aB.same nlg)
      have hlen := dats_len hxs
      rw [List.length_map] at hlen
      have l400 := beginsP_len ok fit tl
      refine ⟨_, rfl, fd, rfl, ⟨xs, SqL.of hx⟩, for_list (xs := xs) (fun i σ H' => (∃ u7 u8 u9 u10 : Option V, σ = [some (.ref x), some (.int n), some (.int 2000), some (.ref l), some (.ref fd), some (.int ((n : Int) - 1 + ((t : Nat) : Int) * -1)), some (.ref lg), u7, u8, u9, u10, none]) ∧ Sd lg Bh H' ∧ Ls H' lg (((beginsP p n t).take i).flatMap (moreP p (n - (t + 1)))))
        ⟨⟨u7, u8, u9, u10, rfl⟩, Sd.refl _, lB⟩ (fun i σ H' _ p => SqL.of (p.2.1 _ _ hx nfl)) ?_ ?_⟩
      · rintro i v σ H6 hv6 ⟨⟨u7, u8, u9, u10, rfl⟩, sd, lL⟩
        obtain ⟨dd, g1, g2⟩ := dats_getV hxs hv6
        rw [List.getElem?_map] at g1
        obtain ⟨y0, hxm, rfl⟩ := Option.map_eq_some_iff.mp g1
        obtain ⟨m1, m2⟩ := beginsP_mem tl (List.mem_of_getElem? hxm)
        have hlt6 := (List.getElem?_eq_some_iff.mp hxm).1
        have sm6 := sd_same sB nl0 sd
        refine ⟨_, g2.sd sd ntl, rfl, fun ws hws => ?_⟩
        obtain ⟨w1, r1, rfl, e1, g3⟩ := dats_of_cons hws
        obtain ⟨w2, r2, rfl, e2, g4⟩ := dats_of_cons g3
        have g5 := dats_of_nil g4
        subst g5
        refine ⟨_, _, rfl, _, _, rfl, rfl, ?_⟩
        refine ⟨_, rfl, x, p, rfl, off1.same sm6, ok, fun sl B2 nsl s6 lsl => ?_⟩
        obtain ⟨ys, hy, hys⟩ := id lsl
        have hlen2 := dats_len hys
        rw [List.length_map] at hlen2
        have nsg : sl ≠ lg := fun z => lL.some (z ▸ nsl)
        have lL2 := lL.same s6
        have ntl2 : ∀ xs, B2 lg ≠ some (.tup xs) := lL2.ntup
        refine ⟨sl, rfl, ⟨ys, SqL.of hy⟩, for_list (xs := ys) (fun j σ H' => (∃ u9 u10 : Option V, σ = [some (.ref x), some (.int n), some (.int 2000), some (.ref l), some (.ref fd), some (.int ((n : Int) - 1 + ((t : Nat) : Int) * -1)), some (.ref lg), some w1, some w2, u9, u10, none]) ∧ Sd lg B2 H' ∧
            Ls H' lg (((beginsP p n t).take i).flatMap (moreP p (n - (t + 1))) ++ ((allSteps p.z).take j).filterMap fun st => if (goalsOf p y0.2 st).filter (alive p (n - (t + 1))) = [] then none else some (y0.1 ++ [st], (goalsOf p y0.2 st).filter (alive p (n - (t + 1))))))
          ⟨⟨u9, u10, rfl⟩, Sd.refl _, by rw [List.take_zero, List.filterMap_nil, List.append_nil]; exact lL2⟩ (fun j σ H' _ p => SqL.of (p.2.1 _ _ hy nsg)) ?_ ?_⟩
        · rintro j y σ H7 hy7 ⟨⟨u9, u10, rfl⟩, sd7, lL7⟩
          obtain ⟨dd, k1, k2⟩ := dats_getV hys hy7
          rw [List.getElem?_map] at k1
          obtain ⟨st, hst, rfl⟩ := Option.map_eq_some_iff.mp k1
          have tx67 : Tx H6 H7 := (tx_same s6).trans (sd7.tx ntl2)
          have sm7 : Same H1 H7 := sd_same (sm6.trans s6) nl0 sd7
          have c1 : Is H7 st y := k2.sd sd7 ntl2
          have c2 : Is H7 y0.1 w1 := Dat.mono tx67 _ _ e1
          have c3 : Is H7 y0.2 w2 := Dat.mono tx67 _ _ e2
          have b1 : ∀ q ∈ y0.2, q < p.mv.length := fun q hq => (after_ok ok y0.1).1 q (by rw [m2] at hq; exact (List.mem_filter.mp hq).1)
          generalize hG : goalsOf p y0.2 st = G at *
          generalize hF : G.filter (alive p (n - (t + 1))) = F at *
          refine ⟨_, rfl, _, rfl, _, rfl, x, _, _, p, y0.2, st, rfl, off1.same sm7, ok, c3, c1, b1, fun gv H8 s8 hg => ?_⟩
          rw [hG] at hg
          obtain ⟨ga, gs, rfl, hga, hgs⟩ := dat_tup.mp hg
          have hlen3 := dats_len hgs
          rw [List.length_map] at hlen3
          have lG : G.length ≤ 6 := by rw [← hG]; exact Nat.le_trans (goalsOf_len p y0.2 st) m16.2
          refine ⟨ga, rfl, ⟨gs, SqT.of hga⟩, fun D hD => lc_is walk_tup (fun j => G[j]?.bind fun g => if alive p (n - (t + 1)) g = true then some g else none) (by have := sizeLine_eq; omega) hD (fun H' sm => SqT.of (sm _ _ hga)) (fun j2 y2 H9 hy9 s9 => ?_) ?_ ?_⟩
          · obtain ⟨dm, q1, q2⟩ := dats_getV hgs hy9
            rw [List.getElem?_map] at q1
            obtain ⟨g, hg9, rfl⟩ := Option.map_eq_some_iff.mp q1
            have hy' : y2 = .int g := is_nat.mp q2
            subst hy'
            rw [hg9]
            intro Q' q'
            have sm9 : Same H1 H9 := (sm7.trans s8).trans s9
            obtain ⟨kvl, kv1, kv2, kv3⟩ := dl3.same sm9
            refine ⟨_, rfl, _, rfl, _, rfl, l, lrefs, _, _, rfl, rfl, SqL.of (sm9 _ _ hl), by rw [left]; exact atI_nat dl1, dl, _, rfl, DGet.k (k := kI g) kv1, _, rfl, ?_⟩
            have glt : g < p.mv.length := goalsOf_lt (S := y0.2) (st := st) (by rw [hG]; exact List.mem_of_getElem? hg9)
            have e : (valV kvl (kI g)).isSome = ((some g : Option Nat).bind fun g => if alive p (n - (t + 1)) g = true then some g else none).isSome := by
              rw [kv3, decide_eq_true glt]
              show _ = (if alive p (n - (t + 1)) g = true then some g else none).isSome
              cases alive p (n - (t + 1)) g <;> rfl
            show Q' (valV kvl (kI g)).isSome H9
            rw [e]
            exact q' _ (Same.refl _)
          · intro j2 y2 H9 g hy9 s9 hg9 Q' q'
            obtain ⟨dm, q1, q2⟩ := dats_getV hgs hy9
            rw [List.getElem?_map] at q1
            obtain ⟨g', hg', rfl⟩ := Option.map_eq_some_iff.mp q1
            rw [hg'] at hg9
            have hg2 : (if alive p (n - (t + 1)) g' = true then some g' else none) = some g := hg9
            by_cases h : alive p (n - (t + 1)) g' = true
            · rw [if_pos h] at hg2
              cases hg2
              exact ⟨_, rfl, q' _ _ (Same.refl _) (q2.same s9)⟩
            · rw [if_neg h] at hg2
              cases hg2
          · intro H9 s9 l9
            rw [hlen3, outs_filterMap (fun _ => rfl), fm_filter, hF] at l9
            refine ⟨D, _, rfl, l9, fun fv H10 s10 hf => ?_⟩
            refine ⟨_, rfl, _, _, rfl, .inl hf, _, _, rfl, rfl, _, rfl, ?_⟩
            have s70 : Same H7 H10 := (s8.trans s9).trans s10
            have lL10 := lL7.same s70
            by_cases hn : F = []
            · have e : decide ((0 : Int) < (((F.map enc).length : Nat) : Int)) = false := by rw [hn]; decide
              show (if decide ((0 : Int) < (((F.map enc).length : Nat) : Int)) = true then _ else _)
              rw [e]
              refine iteF ⟨⟨_, _, rfl⟩, fun b o eb nb => s70 _ _ (sd7 b o eb nb), ?_⟩
              rw [fm_take _ hst, hG, hF, if_pos hn, List.append_nil]
              exact lL10
            · have e : decide ((0 : Int) < (((F.map enc).length : Nat) : Int)) = true := by
                have := List.length_pos_iff.mpr hn
                rw [List.length_map]
                exact decide_eq_true (by omega)
              show (if decide ((0 : Int) < (((F.map enc).length : Nat) : Int)) = true then _ else _)
              rw [e]
              obtain ⟨lvs, hlv⟩ := lsd_nd lL10
              have st1 := (rowsN_mem.mp m1).1
              refine iteT ⟨_, rfl, .inl ⟨rfl, _, SqL.of hlv⟩, _, rfl, _, rfl, [enc st], dats_cons (c1.same s70) dats_nil, by show 1 ≤ sizeLine; rw [sizeLine_eq]; omega, fun a1 Ha sa ha => ?_⟩
              refine ⟨_, _, ((c2.same s70).same sa), ha, by rw [List.length_map, sizeLine_eq]; show y0.1.length + 1 ≤ _; omega, fun a2 Hb sb hb => ?_⟩
              refine ⟨_, rfl, [enc (y0.1 ++ [st]), enc F], dats_cons ?_ (dats_cons ((hf.same sa).same sb) dats_nil), by show 2 ≤ sizeLine; rw [sizeLine_eq]; omega, fun a3 Hc sc hc => ?_⟩
              · show Dat Hb (NestedKey.tup ((y0.1 ++ [st]).map enc)) a2
                rw [List.map_append]
                exact hb
              have sac : Same H10 Hc := (sa.trans sb).trans sc
              refine ⟨lg, _, _, a3, rfl, rfl, lL10.same sac, hc, ?_, fun Hd ad ld => ⟨⟨_, _, rfl⟩, ?_, ?_⟩⟩
              · rw [List.length_map, List.length_append, sizeLine_eq]
                have q1 := flat_le (f := moreP p (n - (t + 1))) (b := 27) (xs := (beginsP p n t).take i) fun y _ => Nat.le_trans (List.length_filterMap_le _ _) ok.z.len
                have q2 := List.length_filterMap_le (fun st => if (goalsOf p y0.2 st).filter (alive p (n - (t + 1))) = [] then none else some (y0.1 ++ [st], (goalsOf p y0.2 st).filter (alive p (n - (t + 1))))) ((allSteps p.z).take j)
                have q3 : ((beginsP p n t).take i).length ≤ (beginsP p n t).length := by rw [List.length_take]; omega
                have q4 : ((allSteps p.z).take j).length ≤ (allSteps p.z).length := by rw [List.length_take]; omega
                have q5 := ok.z.len
                omega
              · exact fun b o eb nb => ad.sd b o (sac _ _ (s70 _ _ (sd7 b o eb nb))) nb
              · rw [fm_take _ hst, hG, hF, if_neg hn, ← List.append_assoc]
                exact lsd_app (ys := [(y0.1 ++ [st], F)]) ld
        · rintro σ H7 ⟨⟨u9, u10, rfl⟩, sd7, lL7⟩
          refine ⟨⟨_, _, _, _, rfl⟩, fun b o eb nb => sd7 b o (s6 _ _ (sd b o eb nb)) nb, ?_⟩
          rw [flat_take _ hxm]
          rw [hlen2, List.take_length] at lL7
          exact lL7
      · rintro σ H6 ⟨⟨u7, u8, u9, u10, rfl⟩, sd, lL⟩
        rw [hlen, List.take_length] at lL
        have l4 := beginsP_len ok fit (k := t + 1) (by omega)
        have e : decide ((2000 : Int) < (((((beginsP p n t).flatMap (moreP p (n - (t + 1)))).map enc).length : Nat) : Int)) = false := by
          rw [List.length_map]
          have : ((beginsP p n t).flatMap (moreP p (n - (t + 1)))).length ≤ 400 := l4
          exact decide_eq_false (by omega)
        refine ⟨_, rfl, _, _, rfl, .inr ⟨lg, rfl, lL⟩, _, rfl, _, _, rfl, rfl, _, rfl, ?_⟩
        show (if decide ((2000 : Int) < (((((beginsP p n t).flatMap (moreP p (n - (t + 1)))).map enc).length : Nat) : Int)) = true then _ else _)
        rw [e]
        exact iteF ⟨_, rfl, lg, _, _, _, _, _, _, rfl, nl0, sd_same sB nl0 sd, lL⟩
    · rintro σ H5 ⟨fd, u5, u6, u7, u8, u9, u10, rfl, nf, sm, lf⟩
      exact ⟨_, rfl, q fd H5 (s1.free nf) (s1.trans sm) lf⟩
end
end Fd

/-! The office's days (2). -/
namespace Fd
open PySem PySem.Spec PyProof.Rows L2
open Enc (enc)
theorem range_fm {β : Type} (c : Nat → Bool) (g : Nat → β) (j : Nat) : (List.range (j + 1)).filterMap (fun l => if c l = true then some (g l) else none) = (List.range j).filterMap (fun l => if c l = true then some (g l) else none) ++ (if c j = true then [g j] else []) := by
  rw [List.range_succ, List.filterMap_append]
  congr 1
  simp only [List.filterMap_cons, List.filterMap_nil]
  cases c j <;> rfl
section
variable {P : Program} {w : World} {K : PySem.W.Frag} {mg : Str → Option Value} {base : Heap}
def spDays (P : Program) (w : World) (C : Addr) : Sp := fun vs H Q _ => ∃ (x : Addr) (p : Pts) (n : Nat), vs = [.ref x, .int n, .int 2000] ∧ Off P w C H x p.z p.mv p.cl ∧ PtsOk p ∧ Fits p n ∧ ∀ l H', H l = none → Same H H' → Ls H' l (tdays p n) → Q (.ref l) H'
theorem ok_days_of {C : Addr} (T : TxtO K mg C) (B : Bi mg) (o_begins_of : Ok P w K mg base 2 "begins_of" ["office", "many", "most"] (spBegins P w C)) (o_shuts_with : Ok P w K mg base 1 "shuts_with" ["office", "standings", "last"] (spShuts P w C))
    (d : Df K mg "days_of" "days_of" s_days_of ["office", "many", "most"]) : Ok P w K mg base 3 "days_of" ["office", "many", "most"] (spDays P w C) := by
  refine d.ok sc_days_of (fun vs H Q E h => ?_) (fun f cdv A outer s H vs Q E hr h => ?_)
  · obtain ⟨x, p, n, rfl, _⟩ := h
    rfl
  · obtain ⟨x, p, n, rfl, off, ok, fit, q⟩ := h
    refine ⟨_, (pss_cons (pss 3 sc_days_of.nd (pe_lstD pa_nil))
      (pss_cons (ps_for PassesOwn.never rfl (pi_list (pe_fn o_begins_of hr (pa_cons (pv 0) (pa_cons (pv 1) (pa_cons (pv 2) pa_nil))))) (pg_tupD rfl (pgs_cons (pgn 4 sc_days_of.nd) (pgs_cons (pgn 5 sc_days_of.nd) pgs_nil)))
        (pss_one (ps_for PassesOwn.never rfl (pi_range1 rfl B.range (pa_cons (pe_ix ix_dat (pe_fld (pv 0) rfl) pe_int (fun _ _ => rfl)) pa_nil)) (pgn 6 sc_days_of.nd)
          (pss_one (ps_if (pt_val (pe_fn o_shuts_with hr (pa_cons (pv 0) (pa_cons (pv 5) (pa_cons (pv 6) pa_nil)))))
            (pss_one (ps_expr (pe_bm PySem.F.plainAttrs_list PySem.F.slot_list_append PySem.F.type_list_append mt_appD (pv 3) (pa_cons (pe_tupD (pa_cons (pv 4) (pa_cons (pv 6) pa_nil))) pa_nil))))
            pss_nil)))))
      (pss_cons (ps_if (pt_cmpR op_gt (pe_callB cr_lenD (by rfl) B.len (by decide +kernel) (pa_cons (pv 3) pa_nil)) (pv 2) (nomark _))
        (pss_one ps_never)
        pss_nil)
      (pss_one (ps_ret (pv 3)))))), ?_⟩
    refine ⟨[], dats_nil, Nat.zero_le _, fun lg B1 nlg aB lB => ?_⟩
    have sB1 : Same H B1 := aB.same nlg
    refine ⟨_, rfl, _, rfl, _, rfl, x, p, n, rfl, off.same sB1, ok, fit, fun fd Bh nfd s2 lf => ?_⟩
    have sB : Same H Bh := sB1.trans s2
    have lB2 := lB.same s2
    have ntl : ∀ xs, Bh lg ≠ some (.tup xs) := lB2.ntup
    have nfl : fd ≠ lg := fun z => lB.some (z ▸ nfd)
    have zm := ok.m.2
    obtain ⟨xs, hx, hxs⟩ := id lf
    have hlen := dats_len hxs
    rw [List.length_map] at hlen
    have l400 := beginsP_len ok fit (Nat.le_refl n)
    refine ⟨fd, rfl, ⟨xs, SqL.of hx⟩, for_list (xs := xs) (fun i σ H' => (∃ u4 u5 u6 : Option V, σ = [some (.ref x), some (.int n), some (.int 2000), some (.ref lg), u4, u5, u6]) ∧ Sd lg Bh H' ∧ Ls H' lg (((beginsP p n n).take i).flatMap fun x => (List.range p.z.m).filterMap fun l => if (x.2.any fun q => decide (l ∈ p.cl.getD q [])) = true then some ((x.1, l) : Day) else none))
      ⟨⟨none, none, none, rfl⟩, Sd.refl _, lB2⟩ (fun i σ H' _ p => SqL.of (p.2.1 _ _ hx nfl)) ?_ ?_⟩
    · rintro i v σ H6 hv6 ⟨⟨u4, u5, u6, rfl⟩, sd, lL⟩
      obtain ⟨dd, g1, g2⟩ := dats_getV hxs hv6
      rw [List.getElem?_map] at g1
      obtain ⟨y0, hxm, rfl⟩ := Option.map_eq_some_iff.mp g1
      obtain ⟨m1, m2⟩ := beginsP_mem (Nat.le_refl n) (List.mem_of_getElem? hxm)
      have hlt6 := (List.getElem?_eq_some_iff.mp hxm).1
      have sm6 := sd_same sB nlg sd
      refine ⟨_, g2.sd sd ntl, rfl, fun ws hws => ?_⟩
      obtain ⟨w1, r1, rfl, e1, g3⟩ := dats_of_cons hws
      obtain ⟨w2, r2, rfl, e2, g4⟩ := dats_of_cons g3
      have g5 := dats_of_nil g4
      subst g5
      refine ⟨_, _, rfl, _, _, rfl, rfl, ?_⟩
      obtain ⟨dx, fs, v1, v2, v3, lk, refs, h1, h2, h3, h4, h5, h6, h7, h8, h9, h10, h11⟩ := (off.same sm6).ex
      refine ⟨_, rfl, x, C, dx, fs, v1, rfl, h1, T.cl, T.nS, h2, _, 2, _, h6, rfl, rfl, fun vz hz => ?_⟩
      rw [dat_num] at hz
      subst hz
      refine ⟨p.z.m, rfl, by omega, by omega, ?_⟩
      rw [Int.toNat_natCast]
      have b1 : ∀ q ∈ y0.2, q < p.mv.length := fun q hq => (after_ok ok y0.1).1 q (by rw [m2] at hq; exact (List.mem_filter.mp hq).1)
      have b2 : y0.2.length ≤ 6 := by
        rw [m2]
        exact Nat.le_trans (List.length_filter_le _ _) (after_ok ok y0.1).2
      refine for_range (lo := 0) (n := p.z.m) (fun j σ H' => (∃ u6 : Option V, σ = [some (.ref x), some (.int n), some (.int 2000), some (.ref lg), some w1, some w2, u6]) ∧ Sd lg H6 H' ∧
          Ls H' lg ((((beginsP p n n).take i).flatMap fun x => (List.range p.z.m).filterMap fun l => if (x.2.any fun q => decide (l ∈ p.cl.getD q [])) = true then some ((x.1, l) : Day) else none) ++ (List.range j).filterMap fun l => if (y0.2.any fun q => decide (l ∈ p.cl.getD q [])) = true then some ((y0.1, l) : Day) else none))
        ⟨⟨u6, rfl⟩, Sd.refl _, by rw [List.range_zero, List.filterMap_nil, List.append_nil]; exact lL⟩ ?_ ?_
      · rintro j σ H7 hj ⟨⟨u6, rfl⟩, sd7, lL7⟩
        have ntl6 : ∀ xs, H6 lg ≠ some (.tup xs) := lL.ntup
        have sm7 : Same H H7 := sd_same sm6 nlg sd7
        have c2 : Is H7 y0.1 w1 := e1.sd sd7 ntl6
        have c3 : Is H7 y0.2 w2 := e2.sd sd7 ntl6
        refine ⟨_, rfl, _, rfl, _, rfl, x, w2, j, p, y0.2, ?_, off.same sm7, ok, c3, b1, b2, fun H8 s8 => ⟨_, rfl, ?_⟩⟩
        · rw [Int.zero_add]
          rfl
        have lL8 := lL7.same s8
        have rs : (List.range (j + 1)).filterMap (fun l => if (y0.2.any fun q => decide (l ∈ p.cl.getD q [])) = true then some ((y0.1, l) : Day) else none) = (List.range j).filterMap (fun l => if (y0.2.any fun q => decide (l ∈ p.cl.getD q [])) = true then some ((y0.1, l) : Day) else none) ++ (if (y0.2.any fun q => decide (j ∈ p.cl.getD q [])) = true then [((y0.1, j) : Day)] else []) := range_fm (fun l => y0.2.any fun q => decide (l ∈ p.cl.getD q [])) (fun l => ((y0.1, l) : Day)) j
        by_cases hs : (y0.2.any fun q => decide (j ∈ p.cl.getD q [])) = true
        · rw [hs]
          obtain ⟨lvs, hlv⟩ := lsd_nd lL8
          refine iteT ⟨_, rfl, .inl ⟨rfl, _, SqL.of hlv⟩, _, rfl, _, rfl, [enc y0.1, .num j], dats_cons (c2.same s8) (dats_cons (dat_num.mpr (by rw [Int.zero_add])) dats_nil), by show 2 ≤ sizeLine; rw [sizeLine_eq]; omega, fun a3 Hc sc hc => ?_⟩
          refine ⟨lg, _, _, a3, rfl, rfl, lL8.same sc, hc, ?_, fun Hd ad ld => ⟨⟨_, rfl⟩, fun b o eb nb => ad.sd b o (sc _ _ (s8 _ _ (sd7 b o eb nb))) nb, ?_⟩⟩
          · rw [List.length_map, List.length_append, sizeLine_eq]
            have q1 := flat_le (f := fun x : List Stp × List Nat => (List.range p.z.m).filterMap fun l => if (x.2.any fun q => decide (l ∈ p.cl.getD q [])) = true then some ((x.1, l) : Day) else none) (b := 3) (xs := (beginsP p n n).take i) fun y _ => Nat.le_trans (List.length_filterMap_le _ _) (by rw [List.length_range]; exact zm)
            have q2 := List.length_filterMap_le (fun l => if (y0.2.any fun q => decide (l ∈ p.cl.getD q [])) = true then some ((y0.1, l) : Day) else none) (List.range j)
            have q3 : ((beginsP p n n).take i).length ≤ (beginsP p n n).length := by rw [List.length_take]; omega
            rw [List.length_range] at q2
            omega
          · rw [rs, if_pos hs, ← List.append_assoc]
            exact lsd_app (ys := [((y0.1, j) : Day)]) ld
        · have hs' : (y0.2.any fun q => decide (j ∈ p.cl.getD q [])) = false := Bool.eq_false_iff.mpr hs
          rw [hs']
          refine iteF ⟨⟨_, rfl⟩, fun b o eb nb => s8 _ _ (sd7 b o eb nb), ?_⟩
          rw [rs, if_neg hs, List.append_nil]
          exact lL8
      · rintro σ H7 ⟨⟨u6, rfl⟩, sd7, lL7⟩
        refine ⟨⟨_, _, _, rfl⟩, sd.trans sd7, ?_⟩
        rw [flat_take _ hxm]
        exact lL7
    · rintro σ H6 ⟨⟨u4, u5, u6, rfl⟩, sd, lL⟩
      rw [hlen, List.take_length] at lL
      have e0 : ((beginsP p n n).flatMap fun x => (List.range p.z.m).filterMap fun l => if (x.2.any fun q => decide (l ∈ p.cl.getD q [])) = true then some ((x.1, l) : Day) else none) = tdays p n := daysP_eq p n
      rw [e0] at lL
      have e : decide ((2000 : Int) < ((((tdays p n).map enc).length : Nat) : Int)) = false := by
        rw [List.length_map]
        have := tdays_len fit
        exact decide_eq_false (by omega)
      refine ⟨_, rfl, _, _, rfl, .inr ⟨lg, rfl, lL⟩, _, rfl, _, _, rfl, rfl, _, rfl, ?_⟩
      show (if decide ((2000 : Int) < ((((tdays p n).map enc).length : Nat) : Int)) = true then _ else _)
      rw [e]
      exact iteF ⟨_, rfl, q lg H6 nlg (sd_same sB nlg sd) lL⟩
end
end Fd

/-! The search for rows alike, in plain Lean. -/
namespace Fd
open Enc (enc)
abbrev Brd := List Nat × Nat
/-- the true days' steps on a board -/
def rowsFor (b : Brd) (ds : List Day) : List (List Stp) := (ds.filter fun d => decide (boardOf d = b)).map (·.1)
theorem rowsFor_nil (b : Brd) : rowsFor b [] = [] := rfl
theorem rowsFor_snoc (b : Brd) (ds : List Day) (d : Day) : rowsFor b (ds ++ [d]) = rowsFor b ds ++ (if boardOf d = b then [d.1] else []) := by
  unfold rowsFor
  rw [List.filter_append, List.map_append]
  by_cases h : boardOf d = b
  · simp [h]
  · simp [h]
theorem rowsFor_mem {b : Brd} {ds : List Day} {ss : List Stp} : ss ∈ rowsFor b ds ↔ ∃ d ∈ ds, boardOf d = b ∧ d.1 = ss := by
  unfold rowsFor
  rw [List.mem_map]
  constructor
  · rintro ⟨d, h1, h2⟩
    obtain ⟨h3, h4⟩ := List.mem_filter.mp h1
    exact ⟨d, h3, of_decide_eq_true h4, h2⟩
  · rintro ⟨d, h1, h2, h3⟩
    exact ⟨d, List.mem_filter.mpr ⟨h1, decide_eq_true h2⟩, h3⟩
/-- the lots through a place, up to it -/
def waysAt (web : List (List Nat)) (j : Nat) : List (List Nat) := (web.filter fun lot => decide (j ∈ lot)).map fun lot => lot.filter fun q => decide (q ≤ j)
def okStep (web : List (List Nat)) (rows : List (List Stp)) (more : List Stp) (j : Nat) : Bool := (waysAt web j).all fun lot => decide (partOf more lot ∈ rows.map fun r => partOf r lot)
def stepsM (z : Sz) (m : Nat) : List Stp := (allSteps z).filter fun st => decide (st.m = m)
/-- the rows one step longer -/
def kids (z : Sz) (web : List (List Nat)) (rows : List (List Stp)) (marks : List Nat) (ss : List Stp) : List (List Stp) :=
  (stepsM z (marks.getD ss.length 0)).filterMap fun st => if okStep web rows (ss ++ [st]) ss.length = true then some (ss ++ [st]) else none
section
variable (z : Sz) (web : List (List Nat)) (rows : List (List Stp)) (marks : List Nat)
/-- all of it behind ss, k steps more -/
def fullF : Nat → List Stp → List (List Stp)
  | 0, ss => [ss]
  | k + 1, ss => (kids z web rows marks ss).reverse.flatMap (fullF k)
def sizeF : Nat → List Stp → Nat
  | 0, _ => 1
  | k + 1, ss => 1 + ((kids z web rows marks ss).map (sizeF k)).sum
def full (ss : List Stp) : List (List Stp) := fullF z web rows marks (marks.length - ss.length) ss
def size (ss : List Stp) : Nat := sizeF z web rows marks (marks.length - ss.length) ss
def likeRows : List (List Stp) := fullF z web rows marks marks.length []
end
section
variable {z : Sz} {web : List (List Nat)} {rows : List (List Stp)} {marks : List Nat}
theorem kids_mem {ss x : List Stp} : x ∈ kids z web rows marks ss ↔ ∃ st, x = ss ++ [st] ∧ st ∈ allSteps z ∧ st.m = marks.getD ss.length 0 ∧ okStep web rows (ss ++ [st]) ss.length = true := by
  unfold kids stepsM
  rw [List.mem_filterMap]
  constructor
  · rintro ⟨st, h1, h2⟩
    obtain ⟨h3, h4⟩ := List.mem_filter.mp h1
    split at h2
    · cases h2
      exact ⟨st, rfl, h3, of_decide_eq_true h4, by assumption⟩
    · cases h2
  · rintro ⟨st, rfl, h1, h2, h3⟩
    exact ⟨st, List.mem_filter.mpr ⟨h1, decide_eq_true h2⟩, if_pos h3⟩
theorem kids_len (ss : List Stp) : (kids z web rows marks ss).length ≤ (stepsM z (marks.getD ss.length 0)).length := List.length_filterMap_le _ _
theorem full_kid {ss x : List Stp} (h : x ∈ kids z web rows marks ss) : x.length = ss.length + 1 := by
  obtain ⟨st, rfl, _⟩ := kids_mem.mp h
  simp
theorem full_done {ss : List Stp} (h : ss.length = marks.length) : full z web rows marks ss = [ss] := by
  unfold full
  rw [h, Nat.sub_self]
  rfl
theorem full_step {ss : List Stp} (h : ss.length < marks.length) : full z web rows marks ss = (kids z web rows marks ss).reverse.flatMap (full z web rows marks) := by
  have e : marks.length - ss.length = (marks.length - (ss.length + 1)) + 1 := by omega
  unfold full
  rw [e, fullF]
  refine flat_congr fun x hx => ?_
  rw [full_kid (List.mem_reverse.mp hx)]
theorem size_done {ss : List Stp} (h : ss.length = marks.length) : size z web rows marks ss = 1 := by
  unfold size
  rw [h, Nat.sub_self]
  rfl
theorem size_step {ss : List Stp} (h : ss.length < marks.length) : size z web rows marks ss = 1 + ((kids z web rows marks ss).map (size z web rows marks)).sum := by
  have e : marks.length - ss.length = (marks.length - (ss.length + 1)) + 1 := by omega
  unfold size
  rw [e, sizeF]
  congr 2
  refine List.map_congr_left fun x hx => ?_
  rw [full_kid hx]
theorem size_pos (ss : List Stp) : 1 ≤ size z web rows marks ss := by
  unfold size
  cases marks.length - ss.length with
  | zero => exact Nat.le_refl _
  | succ k =>
    rw [sizeF]
    omega
theorem sum_len {α : Type} (f : α → Nat) : ∀ {xs : List α}, (∀ x ∈ xs, 1 ≤ f x) → xs.length ≤ (xs.map f).sum
  | [], _ => Nat.le_refl _
  | x :: xs, h => by
    have h1 := h x List.mem_cons_self
    have h2 := sum_len f (xs := xs) fun y hy => h y (List.mem_cons_of_mem _ hy)
    rw [List.length_cons, List.map_cons, List.sum_cons]
    omega
theorem sum_le {α : Type} (f : α → Nat) (b : Nat) : ∀ {xs : List α}, (∀ x ∈ xs, f x ≤ b) → (xs.map f).sum ≤ xs.length * b
  | [], _ => Nat.zero_le _
  | x :: xs, h => by
    have h1 := h x List.mem_cons_self
    have h2 := sum_le f b (xs := xs) fun y hy => h y (List.mem_cons_of_mem _ hy)
    rw [List.length_cons, List.map_cons, List.sum_cons, Nat.succ_mul]
    omega
/-- with one mark: as many as there are notes -/
theorem stepsM_len (z : Sz) (m : Nat) : (stepsM z m).length ≤ z.s * z.a := by
  have h1 : ((stepsM z m).map fun st => (st.s, st.a)).length ≤ (notes z).length := by
    refine List.Nodup.length_le_of_subset ?_ ?_
    · have nd : (stepsM z m).Nodup := by
        unfold stepsM
        refine List.Nodup.sublist List.filter_sublist ?_
        have e : allSteps z = ((List.range z.s).flatMap fun s => (List.range z.a).flatMap fun a => (List.range z.m).map fun m => (⟨s, a, m⟩ : Stp)) := rfl
        rw [e, List.Nodup, List.pairwise_flatMap]
        refine ⟨fun s _ => ?_, ?_⟩
        · rw [List.pairwise_flatMap]
          refine ⟨fun a _ => ?_, ?_⟩
          · rw [List.pairwise_map]
            exact List.nodup_range.imp fun h e => h (by injection e)
          · exact List.nodup_range.imp fun h x hx y hy e => by
              obtain ⟨_, _, rfl⟩ := List.mem_map.mp hx
              obtain ⟨_, _, rfl⟩ := List.mem_map.mp hy
              exact h (by injection e)
        · exact List.nodup_range.imp fun h x hx y hy e => by
            obtain ⟨_, _, hx⟩ := List.mem_flatMap.mp hx
            obtain ⟨_, _, hy⟩ := List.mem_flatMap.mp hy
            obtain ⟨_, _, rfl⟩ := List.mem_map.mp hx
            obtain ⟨_, _, rfl⟩ := List.mem_map.mp hy
            exact h (by injection e)
      rw [List.Nodup, List.pairwise_map]
      refine List.Pairwise.imp_of_mem ?_ nd
      intro x y hx hy h e
      have mx := of_decide_eq_true (List.mem_filter.mp hx).2
      have my := of_decide_eq_true (List.mem_filter.mp hy).2
      refine h ?_
      cases x
      cases y
      simp only [Prod.mk.injEq] at e mx my
      simp [e, mx, my]
    · intro x hx
      obtain ⟨st, h1, rfl⟩ := List.mem_map.mp hx
      obtain ⟨h2, h3, _⟩ := allSteps_mem.mp (List.mem_filter.mp h1).1
      unfold notes
      rw [List.mem_flatMap]
      exact ⟨st.s, List.mem_range.mpr h2, List.mem_map.mpr ⟨st.a, List.mem_range.mpr h3, rfl⟩⟩
  rw [List.length_map, notes_len] at h1
  exact h1
theorem fullF_len : ∀ (k : Nat) (ss : List Stp), (fullF z web rows marks k ss).length ≤ (z.s * z.a) ^ k
  | 0, _ => Nat.le_refl _
  | k + 1, ss => by
    rw [fullF]
    have h1 := flat_le (f := fullF z web rows marks k) (b := (z.s * z.a) ^ k) (xs := (kids z web rows marks ss).reverse) fun x _ => fullF_len k x
    rw [List.length_reverse] at h1
    have h2 : (kids z web rows marks ss).length ≤ z.s * z.a := Nat.le_trans (kids_len ss) (stepsM_len z _)
    have h3 : (kids z web rows marks ss).length * (z.s * z.a) ^ k ≤ (z.s * z.a) * (z.s * z.a) ^ k := Nat.mul_le_mul_right _ h2
    rw [Nat.pow_succ, Nat.mul_comm ((z.s * z.a) ^ k)]
    omega
theorem sizeF_le (zok : SzOk z) : ∀ (k : Nat) (ss : List Stp), sizeF z web rows marks k ss ≤ 10 ^ k
  | 0, _ => Nat.le_refl _
  | k + 1, ss => by
    rw [sizeF]
    have h1 := sum_le (sizeF z web rows marks k) (10 ^ k) (xs := kids z web rows marks ss) fun x _ => sizeF_le zok k x
    have h2 : (kids z web rows marks ss).length ≤ z.s * z.a := Nat.le_trans (kids_len ss) (stepsM_len z _)
    have h3 : z.s * z.a ≤ 3 * 3 := Nat.mul_le_mul zok.s.2 zok.a.2
    have h4 : (kids z web rows marks ss).length * 10 ^ k ≤ 9 * 10 ^ k := Nat.mul_le_mul_right _ (by omega)
    have h5 : 1 ≤ 10 ^ k := Nat.one_le_pow _ _ (by omega)
    rw [Nat.pow_succ]
    omega
theorem size_le (zok : SzOk z) (h : marks.length ≤ 6) (ss : List Stp) : size z web rows marks ss ≤ 1000000 := by
  have h1 := sizeF_le (web := web) (rows := rows) (marks := marks) zok (marks.length - ss.length) ss
  have h2 : 10 ^ (marks.length - ss.length) ≤ 10 ^ 6 := Nat.pow_le_pow_right (by omega) (by omega)
  exact Nat.le_trans h1 h2
/-! ### what is found -/
theorem fullF_mem : ∀ (k : Nat) (ss x : List Stp), x ∈ fullF z web rows marks k ss ↔ ∃ t : List Stp, t.length = k ∧ x = ss ++ t ∧ ∀ i (h : i < t.length), t[i] ∈ allSteps z ∧ t[i].m = marks.getD (ss.length + i) 0 ∧ okStep web rows (ss ++ t.take (i + 1)) (ss.length + i) = true
  | 0, ss, x => by
    rw [fullF, List.mem_singleton]
    constructor
    · rintro rfl
      exact ⟨[], rfl, by simp, fun i h => absurd h (Nat.not_lt_zero _)⟩
    · rintro ⟨t, h1, rfl, _⟩
      rw [List.eq_nil_of_length_eq_zero h1, List.append_nil]
  | k + 1, ss, x => by
    rw [fullF, List.mem_flatMap]
    constructor
    · rintro ⟨y, h1, h2⟩
      obtain ⟨st, rfl, q1, q2, q3⟩ := kids_mem.mp (List.mem_reverse.mp h1)
      obtain ⟨t, t1, rfl, t2⟩ := (fullF_mem k _ x).mp h2
      refine ⟨st :: t, by simp [t1], by simp, fun i hi => ?_⟩
      cases i with
      | zero => exact ⟨q1, by simpa using q2, by simpa using q3⟩
      | succ i =>
        have hi' : i < t.length := by simpa using hi
        obtain ⟨a, b, c⟩ := t2 i hi'
        rw [List.length_append, List.length_singleton] at b c
        refine ⟨by simpa using a, ?_, ?_⟩
        · rw [List.getElem_cons_succ, b]
          congr 1
          omega
        · rw [List.take_succ_cons, show ss.length + (i + 1) = ss.length + 1 + i by omega]
          simpa using c
    · rintro ⟨t, t1, rfl, t2⟩
      cases t with
      | nil => simp at t1
      | cons st t =>
        obtain ⟨a, b, c⟩ := t2 0 (by simp)
        refine ⟨ss ++ [st], List.mem_reverse.mpr (kids_mem.mpr ⟨st, rfl, a, by simpa using b, by simpa using c⟩), (fullF_mem k _ _).mpr ⟨t, by simpa using t1, by simp, fun i hi => ?_⟩⟩
        obtain ⟨a, b, c⟩ := t2 (i + 1) (by simpa using hi)
        rw [List.getElem_cons_succ] at a b
        rw [List.take_succ_cons] at c
        rw [List.length_append, List.length_singleton]
        refine ⟨a, ?_, ?_⟩
        · rw [b]
          congr 1
          omega
        · rw [show ss.length + 1 + i = ss.length + (i + 1) by omega]
          simpa using c
end
end Fd

/-! Dicts as sets of data. -/
namespace Fd
open PySem PySem.Spec PyProof.Rows L2
open Enc (enc)
theorem dcn_it {P : Program} {w : World} {J : It} {n : Nat} {G : Hp → Prop} {Y : Nat → Hp → V → Hp → Prop} (wk : Walk J n G Y) {g : TG} {tk tv : TE} {vs : List Nat} {σ : L2.St} {H2 : Hp} {D : Addr} {Qd : Hp → Prop} (Pv : Nat → Hp → Prop) (h0 : Pv 0 H2) (hG : ∀ i H, i ≤ n → Pv i H → G H)
    (hs : ∀ i x H H', i < n → Pv i H → Y i H x H' → g x (wipe σ vs) H' fun σ2 H3 => wipe σ2 vs = wipe σ vs ∧ tk σ2 H3 fun y H4 => tv σ2 H4 fun z H5 => ∃ kvs k, DN P w H5 D kvs ∧ Dat H5 (.tup k) y ∧ Okd (.tup k) ∧ kvs.length < sizeLine ∧ ∀ H6, At1 D H5 H6 → DN P w H6 D (putK kvs (.tup k) z) → Pv (i + 1) H6)
    (hd : ∀ H, Pv n H → Qd H) :
    ∃ W : Nat → Nat → Hp → Prop, (∃ m, W 0 m H2) ∧ ∀ i m H, W i m H →
      (J.stop i H ∧ Qd H) ∨ (J.go i H ∧ ∃ Nx : Hp → Prop, (∀ H', Nx H' → ∃ m', m' < m ∧ W (i + 1) m' H') ∧ ∀ x H', J.yld i H x H' → g x (wipe σ vs) H' fun σ2 H3 => wipe σ2 vs = wipe σ vs ∧
        tk σ2 H3 fun y H4 => tv σ2 H4 fun z H5 => ∃ kvs k, DN P w H5 D kvs ∧ Dat H5 (.tup k) y ∧ Okd (.tup k) ∧ kvs.length < sizeLine ∧ ∀ H6, At1 D H5 H6 → DN P w H6 D (putK kvs (.tup k) z) → Nx H6) := by
  refine ⟨fun i m H => m = n - i ∧ i ≤ n ∧ Pv i H, ⟨n, by simp, Nat.zero_le _, h0⟩, ?_⟩
  rintro i m H ⟨rfl, hi, p⟩
  have q := hG i H hi p
  by_cases hlt : i < n
  · refine .inr ⟨wk.goes i H hlt q, Pv (i + 1), fun H' p' => ⟨n - (i + 1), by omega, rfl, hlt, p'⟩, fun x H' y => hs i x H H' hlt p (wk.yields i H x H' hlt q y)⟩
  · have e : i = n := by omega
    subst e
    exact .inl ⟨wk.stops H q, hd H p⟩
theorem iteT' {c : Bool} {A B : Prop} (e : c = true) (h : A) : if c = true then A else B := by
  rw [if_pos e]
  exact h
theorem iteF' {c : Bool} {A B : Prop} (e : c = false) (h : B) : if c = true then A else B := by
  rw [e, if_neg Bool.false_ne_true]
  exact h
section
variable {α : Type} [Enc α] [DecidableEq α]
theorem keys_putN {kvs : List (D × V)} {bs : List α} (h : kvs.map (·.1) = bs.map enc) (b : α) (v : V) : (putK kvs (enc b) v).map (·.1) = (if b ∈ bs then bs else bs ++ [b]).map enc := by
  have hm : (kvs.any fun kv => decide (kv.1 = enc b)) = decide (b ∈ bs) := by
    rw [Bool.eq_iff_iff, List.any_eq_true, decide_eq_true_iff]
    constructor
    · rintro ⟨kv, h1, h2⟩
      have : kv.1 ∈ bs.map enc := h ▸ List.mem_map_of_mem h1
      obtain ⟨n, h3, h4⟩ := List.mem_map.mp this
      have e : n = b := Enc.inj _ _ (h4.trans (of_decide_eq_true h2))
      exact e ▸ h3
    · intro h1
      have : enc b ∈ kvs.map (·.1) := h ▸ List.mem_map_of_mem h1
      obtain ⟨kv, h3, h4⟩ := List.mem_map.mp this
      exact ⟨kv, h3, decide_eq_true h4⟩
  unfold putK
  rw [hm]
  by_cases e : b ∈ bs
  · rw [if_pos (decide_eq_true e), if_pos e, ← h, List.map_map]
    refine List.map_congr_left fun kv _ => ?_
    show (if kv.1 = enc b then (kv.1, v) else kv).1 = kv.1
    split <;> rfl
  · rw [if_neg (by rw [decide_eq_false e]; exact Bool.false_ne_true), if_neg e, List.map_append, List.map_append, h]
    rfl
theorem valV_mem {kvs : List (D × V)} (nd : (kvs.map (·.1)).Nodup) : ∀ {j : Nat} {k : D} {v : V}, kvs[j]? = some (k, v) → valV kvs k = some v := by
  induction kvs with
  | nil =>
    intro j k v h
    simp at h
  | cons p ps ih =>
    intro j k v h
    rw [List.map_cons, List.nodup_cons] at nd
    cases j with
    | zero =>
      have e : p = (k, v) := by simpa using h
      subst e
      exact valV_pos rfl
    | succ j =>
      have h' : ps[j]? = some (k, v) := by simpa using h
      have hk : k ∈ ps.map (·.1) := List.mem_map.mpr ⟨(k, v), List.mem_of_getElem? h', rfl⟩
      rw [valV_neg (fun e => nd.1 (e ▸ hk))]
      exact ih nd.2 h'
theorem enc_nodup {bs : List α} (h : bs.Nodup) : (bs.map enc).Nodup := by
  rw [List.Nodup, List.pairwise_map]
  exact List.Pairwise.imp (fun a b => a (Enc.inj _ _ b)) h
/-- at d a dict whose keys are those of xs -/
def SetN (P : Program) (w : World) (H : Hp) (d : Addr) (xs : List α) : Prop := ∃ kvs, DN P w H d kvs ∧ kvs.length ≤ xs.length ∧ ∀ x : α, (valV kvs (enc x)).isSome = decide (x ∈ xs)
theorem SetN.same {P : Program} {w : World} {H H' : Hp} {d : Addr} {xs : List α} (h : SetN P w H d xs) (s : Same H H') : SetN P w H' d xs := by
  obtain ⟨kvs, a, b⟩ := h
  exact ⟨kvs, a.same s, b⟩
theorem dn_sd {P : Program} {w : World} {H H' : Hp} {d z : Addr} {kvs : List (D × V)} (h : DN P w H d kvs) (ne : d ≠ z) (s : Sd z H H') (nt : ∀ xs, H z ≠ some (.tup xs)) : DN P w H' d kvs := by
  obtain ⟨xs, e, b, c⟩ := h
  exact ⟨xs, s _ _ e ne, b, c.mono (s.tx nt)⟩
theorem SetN.sd {P : Program} {w : World} {H H' : Hp} {d z : Addr} {xs : List α} (h : SetN P w H d xs) (ne : d ≠ z) (s : Sd z H H') (nt : ∀ xs, H z ≠ some (.tup xs)) : SetN P w H' d xs := by
  obtain ⟨kvs, a, b⟩ := h
  exact ⟨kvs, dn_sd a ne s nt, b⟩
theorem setN_nil {P : Program} {w : World} {H : Hp} {d : Addr} (h : DN P w H d []) : SetN P w H d ([] : List α) := ⟨[], h, Nat.le_refl 0, fun _ => rfl⟩
theorem setN_put {P : Program} {w : World} {H : Hp} {d : Addr} {xs : List α} {kvs : List (D × V)} {x : α} {v : V} (a : kvs.length ≤ xs.length) (b : ∀ x : α, (valV kvs (enc x)).isSome = decide (x ∈ xs)) (h : DN P w H d (putK kvs (enc x) v)) : SetN P w H d (xs ++ [x]) := by
  refine ⟨_, h, by have := length_putK kvs (enc x) v; rw [List.length_append, List.length_singleton]; omega, fun y => ?_⟩
  rw [valV_put]
  by_cases e : y = x
  · subst e
    rw [if_pos rfl, decide_eq_true (List.mem_append_right _ List.mem_cons_self)]
    rfl
  · rw [if_neg (fun z => e (Enc.inj _ _ z)), b y]
    refine decide_eq_decide.mpr ?_
    rw [List.mem_append, List.mem_singleton]
    simp [e]
/-- {f(x): True for x in ..} -/
theorem dcn_set {P : Program} {w : World} {J : It} {ys : List V} {G : Hp → Prop} (wk : Walk J ys.length G (YAt ys)) {j : Nat} {tk : TE} {σ : L2.St} {H1 H2 : Hp} {D : Addr} {Qd : Hp → Prop} (xs : List α) (hl : xs.length = ys.length) (hz : ys.length ≤ 100000) (n : H1 D = none) (a : At1 D H1 H2) (d : DN P w H2 D [])
    (htup : ∀ x : α, ∃ k, enc x = .tup k) (hok : Enc.dep α ≤ 8) (hG : ∀ H, Same H1 H → G H)
    (hk : ∀ (i : Nat) (x : V) (H : Hp) (b : α), ys[i]? = some x → Same H1 H → xs[i]? = some b → EvP tk ((wipe σ [j]).set j (some x)) H fun v H' => Is H' b v)
    (hQ : ∀ H', Same H1 H' → SetN P w H' D xs → Qd H') :
    ∃ W : Nat → Nat → Hp → Prop, (∃ m, W 0 m H2) ∧ ∀ i m H, W i m H →
      (J.stop i H ∧ Qd H) ∨ (J.go i H ∧ ∃ Nx : Hp → Prop, (∀ H', Nx H' → ∃ m', m' < m ∧ W (i + 1) m' H') ∧ ∀ x H', J.yld i H x H' → gName j x (wipe σ [j]) H' fun σ2 H3 => wipe σ2 [j] = wipe σ [j] ∧
        tk σ2 H3 fun y H4 => tC (.bl true) σ2 H4 fun z H5 => ∃ kvs k, DN P w H5 D kvs ∧ Dat H5 (.tup k) y ∧ Okd (.tup k) ∧ kvs.length < sizeLine ∧ ∀ H6, At1 D H5 H6 → DN P w H6 D (putK kvs (.tup k) z) → Nx H6) := by
  refine dcn_it wk (fun i H => Same H1 H ∧ SetN P w H D (xs.take i)) ⟨a.same n, setN_nil d⟩ (fun i H _ p => hG H p.1) ?_ fun H p => hQ H p.1 (by rw [← hl, List.take_length] at p; exact p.2)
  rintro i x H H' hi ⟨sm, st⟩ ⟨rfl, hx⟩
  have hlt : i < xs.length := by omega
  have hb : xs[i]? = some xs[i] := List.getElem?_eq_getElem hlt
  refine ⟨wipe_one, hk i x H' _ hx sm hb _ fun v H4 s4 hv => ?_⟩
  obtain ⟨kvs, k1, k2, k3⟩ := st.same s4
  obtain ⟨kk, e⟩ := htup xs[i]
  have tl : (xs.take i).length ≤ xs.length := by rw [List.length_take]; omega
  refine ⟨kvs, kk, k1, by rw [← e]; exact hv, by rw [← e]; exact okd _ hok, by rw [sizeLine_eq]; omega, fun H6 a6 d6 => ⟨At1.sameOf (sm.trans s4) a6 n, ?_⟩⟩
  rw [take_snoc hb]
  rw [← e] at d6
  exact setN_put k2 k3 d6
end
end Fd

/-! Rows by board; ways into a place. -/
namespace Fd
open PySem PySem.Spec PyProof.Rows L2
open Enc (enc)
abbrev s_rows_by_board : Stmt := topS 35
theorem sc_rows_by_board : FnScope ["days", "found", "day"] ["days"] (defScope s_rows_by_board) := ⟨rfl, rfl, rfl, by decide +kernel, rfl, by decide +kernel, by decide +kernel⟩
abbrev s_ways_into : Stmt := topS 37
theorem sc_ways_into : FnScope ["web", "rows", "place", "found", "lot", "ahead", "other", "row"] ["web", "rows", "place"] (defScope s_ways_into) := ⟨rfl, rfl, rfl, by decide +kernel, rfl, by decide +kernel, by decide +kernel⟩
/-- at d the rows of the days, by board -/
def BRows (P : Program) (w : World) (H : Hp) (d : Addr) (ds : List Day) : Prop := ∃ (kvs : List (D × V)) (bs : List Brd), DN P w H d kvs ∧ kvs.length = bs.length ∧ bs.Nodup ∧ (∀ b, b ∈ bs ↔ ∃ x ∈ ds, boardOf x = b) ∧
  ∀ (j : Nat) (b : Brd), bs[j]? = some b → ∃ l, kvs[j]? = some (enc b, V.ref l) ∧ Ls H l (rowsFor b ds)
/-- .. while they are filled -/
def BRowsF (P : Program) (w : World) (H1 H : Hp) (d : Addr) (ds : List Day) : Prop := ∃ (kvs : List (D × V)) (bs : List Brd), DN P w H d kvs ∧ kvs.map (·.1) = bs.map enc ∧ bs.Nodup ∧ (∀ b, b ∈ bs ↔ ∃ x ∈ ds, boardOf x = b) ∧ kvs.length ≤ ds.length ∧
  (∀ b, (valV kvs (enc b) = none ∧ b ∉ bs) ∨ ∃ l, valV kvs (enc b) = some (V.ref l) ∧ H1 l = none ∧ l ≠ d ∧ Ls H l (rowsFor b ds)) ∧
  ∀ (b b' : Brd) (l : Addr), valV kvs (enc b) = some (.ref l) → valV kvs (enc b') = some (.ref l) → b = b'
theorem BRowsF.done {P : Program} {w : World} {H1 H : Hp} {d : Addr} {ds : List Day} (h : BRowsF P w H1 H d ds) : BRows P w H d ds := by
  obtain ⟨kvs, bs, h1, h2, h3, h4, h5, h6, h7⟩ := h
  have hl : kvs.length = bs.length := by
    have := congrArg List.length h2
    simpa using this
  refine ⟨kvs, bs, h1, hl, h3, h4, fun j b hb => ?_⟩
  have hj : j < kvs.length := by
    rw [hl]
    exact (List.getElem?_eq_some_iff.mp hb).1
  have e1 : (kvs.map (·.1))[j]? = some (enc b) := by rw [h2, List.getElem?_map, hb]; rfl
  rw [List.getElem?_map, List.getElem?_eq_getElem hj] at e1
  have e2 : kvs[j].1 = enc b := Option.some.inj e1
  have e3 : kvs[j]? = some (enc b, kvs[j].2) := by
    rw [List.getElem?_eq_getElem hj, ← e2]
  have e4 := valV_mem (by rw [h2]; exact enc_nodup h3) e3
  rcases h6 b with ⟨_, n⟩ | ⟨l, l1, _, _, l4⟩
  · exact (n (List.mem_of_getElem? hb)).elim
  · rw [l1] at e4
    have e5 := Option.some.inj e4
    exact ⟨l, by rw [e3, ← e5], l4⟩
/-- one way: a lot, and its rows' parts -/
def Way (P : Program) (w : World) (H : Hp) (v : V) (lot : List Nat) (rows : List (List Stp)) : Prop := ∃ (t dd : Addr) (va : V), v = .ref t ∧ H t = some (HO.tup [va, V.ref dd]) ∧ Is H lot va ∧ SetN P w H dd (rows.map fun r => partOf r lot)
theorem Way.same {P : Program} {w : World} {H H' : Hp} {v : V} {lot : List Nat} {rows : List (List Stp)} (h : Way P w H v lot rows) (s : Same H H') : Way P w H' v lot rows := by
  obtain ⟨t, dd, va, a, b, c, d⟩ := h
  exact ⟨t, dd, va, a, s _ _ b, c.same s, d.same s⟩
theorem Way.sd {P : Program} {w : World} {H H' : Hp} {z : Addr} {zs : List V} {v : V} {lot : List Nat} {rows : List (List Stp)} (h : Way P w H v lot rows) (hz : H z = some (.lst zs)) (s : Sd z H H') : Way P w H' v lot rows := by
  obtain ⟨t, dd, va, a, b, c, d⟩ := h
  have nt : ∀ xs, H z ≠ some (.tup xs) := fun xs e => by
    rw [hz] at e
    cases e
  refine ⟨t, dd, va, a, s _ _ b (fun e => nt _ (e ▸ b)), c.sd s nt, d.sd (fun e => ?_) s nt⟩
  obtain ⟨kvs, k, _⟩ := d
  obtain ⟨xs, k, _⟩ := k
  rw [e, hz] at k
  cases k
/-- at l the ways -/
def Ways (P : Program) (w : World) (H : Hp) (l : Addr) (lots : List (List Nat)) (rows : List (List Stp)) : Prop := ∃ refs : List V, H l = some (HO.lst refs) ∧ refs.length = lots.length ∧ ∀ (j : Nat) (lot : List Nat), lots[j]? = some lot → ∃ v, refs[j]? = some v ∧ Way P w H v lot rows
theorem Ways.same {P : Program} {w : World} {H H' : Hp} {l : Addr} {lots : List (List Nat)} {rows : List (List Stp)} (h : Ways P w H l lots rows) (s : Same H H') : Ways P w H' l lots rows := by
  obtain ⟨refs, a, b, c⟩ := h
  refine ⟨refs, s _ _ a, b, fun j lot hj => ?_⟩
  obtain ⟨v, e1, e2⟩ := c j lot hj
  exact ⟨v, e1, e2.same s⟩
theorem Ways.sd {P : Program} {w : World} {H H' : Hp} {z : Addr} {zs : List V} {l : Addr} {lots : List (List Nat)} {rows : List (List Stp)} (h : Ways P w H l lots rows) (hz : H z = some (.lst zs)) (ne : l ≠ z) (s : Sd z H H') : Ways P w H' l lots rows := by
  obtain ⟨refs, a, b, c⟩ := h
  refine ⟨refs, s _ _ a ne, b, fun j lot hj => ?_⟩
  obtain ⟨v, e1, e2⟩ := c j lot hj
  exact ⟨v, e1, e2.sd hz s⟩
section
variable {P : Program} {w : World} {K : PySem.W.Frag} {mg : Str → Option Value} {base : Heap}
def spByBoard (P : Program) (w : World) : Sp := fun vs H Q _ => ∃ (l : Addr) (ds : List Day), vs = [.ref l] ∧ Ls H l ds ∧ ds.length ≤ 1000 ∧ (∀ x ∈ ds, x.1.length ≤ 1000) ∧ ∀ d H', H d = none → Same H H' → BRows P w H' d ds → Q (.ref d) H'
theorem ok_rows_by_board (B : Bi mg) (o_board_of : Ok P w K mg base 1 "board_of" ["day"] spBoard) (d : Df K mg "rows_by_board" "rows_by_board" s_rows_by_board ["days"]) : Ok P w K mg base 2 "rows_by_board" ["days"] (spByBoard P w) := by
  refine d.ok sc_rows_by_board (fun vs H Q E h => ?_) (fun f cdv A outer s H vs Q E hr h => ?_)
  · obtain ⟨l, ds, rfl, _⟩ := h
    rfl
  · obtain ⟨l, ds, rfl, hl, z1, z2, q⟩ := h
    refine ⟨_, (pss_cons (pss 1 sc_rows_by_board.nd pe_dnewN)
      (pss_cons (ps_for PassesOwn.never rfl (pi_list (pv 0)) (pgn 2 sc_rows_by_board.nd)
        (pss_one (ps_expr (pe_bm PySem.F.plainAttrs_list PySem.F.slot_list_append PySem.F.type_list_append mt_appD (pe_setdN hr.units (pv 1) (pe_fn o_board_of hr (pa_cons (pv 2) pa_nil)) (pe_lstD pa_nil) ⟨rfl, rfl, rfl, rfl⟩) (pa_cons (pe_ix ix_dat (pv 2) pe_int (fun _ _ => rfl)) pa_nil)))))
      (pss_one (ps_ret (pv 1))))), ?_⟩
    refine fun d H1 nd a1 D1 => ?_
    have s1 : Same H H1 := a1.same nd
    obtain ⟨xs, hx, hxs⟩ := id hl
    have hlen := dats_len hxs
    rw [List.length_map] at hlen
    have nld : l ≠ d := fun z => hl.some (z ▸ nd)
    refine ⟨_, rfl, l, rfl, ⟨xs, SqL.of (s1 _ _ hx)⟩, for_list (xs := xs) (fun i σ H' => (∃ u2, σ = [some (.ref l), some (.ref d), u2]) ∧ Same H H' ∧ BRowsF P w H H' d (ds.take i))
      ⟨⟨none, rfl⟩, s1, [], [], D1, rfl, List.nodup_nil, fun b => ⟨fun z => (nomatch z), fun ⟨x, z, _⟩ => (nomatch z)⟩, Nat.le_refl 0, fun b => .inl ⟨rfl, fun z => nomatch z⟩, fun b b' l e => by cases e⟩ (fun i σ H' _ p => SqL.of (p.2.1 _ _ hx)) ?_ ?_⟩
    · rintro i v σ H2 hv ⟨⟨u2, rfl⟩, sm, kvs, bs, Dk, keys, ndb, mem, lk, each, inj⟩
      obtain ⟨dd, g1, g2⟩ := dats_getV hxs hv
      rw [List.getElem?_map] at g1
      obtain ⟨x, hxm, rfl⟩ := Option.map_eq_some_iff.mp g1
      have i2 : Is H2 x v := g2.same sm
      have tl : (ds.take i).length ≤ ds.length := by rw [List.length_take]; omega
      have tk := take_snoc hxm
      refine ⟨_, rfl, d, rfl, ⟨kvs, Dk⟩, _, rfl, _, x, rfl, i2, z2 x (List.mem_of_getElem? hxm), fun bv H3 s3 hb => ?_⟩
      refine ⟨[], dats_nil, Nat.zero_le _, fun e0 H4 ne0 a4 l4 => ?_⟩
      have s4 : Same H3 H4 := a4.same ne0
      have s24 : Same H2 H4 := s3.trans s4
      have Dk4 : DN P w H4 d kvs := Dk.same s24
      have nd2 : H2 d ≠ none := Dk.some
      refine ⟨kvs, _, Dk4, hb.same s4, okd (boardOf x), by rw [sizeLine_eq]; omega, fun v0 hv0 => ?_, fun hn H7 a7 D7 => ?_⟩
      · have hv0' : valV kvs (enc (boardOf x)) = some v0 := hv0
        rcases each (boardOf x) with ⟨h, _⟩ | ⟨l', q1, q2, q3, q4⟩
        · rw [h] at hv0'
          cases hv0'
        · rw [q1] at hv0'
          cases hv0'
          have q6 := q4.same s24
          obtain ⟨zs, y1, y2⟩ := id q6
          have inb : boardOf x ∈ bs := by
            rcases each (boardOf x) with ⟨h, _⟩ | _
            · rw [q1] at h
              cases h
            · have h5 := keys_putN keys (boardOf x) (V.ref l')
              by_cases hin : boardOf x ∈ bs
              · exact hin
              · exfalso
                have h6 : (valV kvs (enc (boardOf x))).isSome = true := by rw [q1]; rfl
                rw [← valV_any, List.any_eq_true] at h6
                obtain ⟨kv, k1, k2⟩ := h6
                have k3 : kv.1 ∈ bs.map enc := keys ▸ List.mem_map_of_mem k1
                obtain ⟨b', k4, k5⟩ := List.mem_map.mp k3
                exact hin ((Enc.inj _ _ (k5.trans (of_decide_eq_true k2))) ▸ k4)
          refine ⟨.inl ⟨rfl, _, SqL.of y1⟩, _, rfl, _, 0, _, i2.same s24, rfl, rfl, fun sv hs => ?_⟩
          refine ⟨l', _, _, sv, rfl, rfl, q6, hs, ?_, fun H7 a7 l7 => ?_⟩
          · rw [List.length_map]
            have g0 : (rowsFor (boardOf x) (ds.take i)).length ≤ (ds.take i).length := by
              unfold rowsFor
              rw [List.length_map]
              exact List.length_filter_le _ _
            rw [sizeLine_eq]
            omega
          · have t7 : Tx H4 H7 := a7.tx q6.ntup
            refine ⟨⟨_, rfl⟩, At1.sameOf (sm.trans s24) a7 q2, kvs, bs, Dk4.keep (a7 d q3.symm) t7, keys, ndb, fun b => ?_, by rw [tk, List.length_append, List.length_singleton]; omega, fun b => ?_, inj⟩
            · rw [mem b, tk]
              constructor
              · rintro ⟨y, h1, h2⟩
                exact ⟨y, List.mem_append_left _ h1, h2⟩
              · rintro ⟨y, h1, h2⟩
                rcases List.mem_append.mp h1 with h1 | h1
                · exact ⟨y, h1, h2⟩
                · rw [List.mem_singleton] at h1
                  subst h1
                  obtain ⟨y', h3, h4⟩ := (mem (boardOf y)).mp inb
                  exact ⟨y', h3, h4.trans h2⟩
            · rw [tk, rowsFor_snoc]
              by_cases e : boardOf x = b
              · subst e
                refine .inr ⟨l', q1, q2, q3, ?_⟩
                rw [if_pos rfl]
                exact lsd_app (ys := [x.1]) l7
              · rw [if_neg e, List.append_nil]
                rcases each b with h | ⟨l2, p1, p2, p3, p4⟩
                · exact .inl h
                · have ne : l2 ≠ l' := fun z => e (inj (boardOf x) b l' q1 (z ▸ p1))
                  exact .inr ⟨l2, p1, p2, p3, (p4.same s24).keep (a7 l2 ne) t7⟩
      · have hn' : valV kvs (enc (boardOf x)) = none := hn
        have pd : e0 ≠ d := fun z => by
          rw [z] at ne0
          exact (Dk.same s3).some ne0
        have hp7 : Lsd H7 e0 [] := l4.keep (a7 e0 pd) (a7.tx Dk4.ntup)
        obtain ⟨zs, y1, y2⟩ := id hp7
        have t7 : Tx H4 H7 := a7.tx Dk4.ntup
        have nd0 : H d = none := nd
        refine ⟨.inl ⟨rfl, _, SqL.of y1⟩, _, rfl, _, 0, _, Dat.mono t7 _ _ (i2.same s24), rfl, rfl, fun sv hs => ?_⟩
        refine ⟨e0, [], _, sv, rfl, rfl, hp7, hs, by show 0 < sizeLine; decide, fun H8 a8 l8 => ?_⟩
        have np' : H e0 = none := (sm.trans s3).free ne0
        have t8 : Tx H7 H8 := a8.tx hp7.ntup
        have nin : boardOf x ∉ bs := by
          rcases each (boardOf x) with ⟨_, h⟩ | ⟨l', p1, _⟩
          · exact h
          · rw [hn'] at p1
            cases p1
        have norow : rowsFor (boardOf x) (ds.take i) = [] := by
          unfold rowsFor
          rw [List.filter_eq_nil_iff.mpr]
          · rfl
          · intro y hy h
            exact nin ((mem _).mpr ⟨y, hy, of_decide_eq_true h⟩)
        refine ⟨⟨_, rfl⟩, At1.sameOf (At1.sameOf (sm.trans s24) a7 nd0) a8 np', _, bs ++ [boardOf x], D7.keep (a8 d pd.symm) t8, ?_, ?_, fun b => ?_, ?_, fun b => ?_, fun b b' l2 e1 e2 => ?_⟩
        · have := keys_putN keys (boardOf x) (V.ref e0)
          rw [if_neg nin] at this
          exact this
        · rw [List.nodup_append]
          refine ⟨ndb, by simp, fun a ha b hb => ?_⟩
          rw [List.mem_singleton] at hb
          subst hb
          exact fun e => nin (e ▸ ha)
        · rw [List.mem_append, List.mem_singleton, mem b, tk]
          constructor
          · rintro (⟨y, h1, h2⟩ | h)
            · exact ⟨y, List.mem_append_left _ h1, h2⟩
            · exact ⟨x, List.mem_append_right _ List.mem_cons_self, h.symm⟩
          · rintro ⟨y, h1, h2⟩
            rcases List.mem_append.mp h1 with h1 | h1
            · exact .inl ⟨y, h1, h2⟩
            · rw [List.mem_singleton] at h1
              exact .inr (h1 ▸ h2.symm)
        · have := length_putK kvs (enc (boardOf x)) (V.ref e0)
          show (putK kvs (enc (boardOf x)) (V.ref e0)).length ≤ _
          rw [tk, List.length_append, List.length_singleton]
          omega
        · show (valV (putK kvs (enc (boardOf x)) (V.ref e0)) (enc b) = none ∧ _) ∨ ∃ l, valV (putK kvs (enc (boardOf x)) (V.ref e0)) (enc b) = some (V.ref l) ∧ _
          rw [valV_put, tk, rowsFor_snoc]
          by_cases e : boardOf x = b
          · subst e
            rw [if_pos rfl, if_pos rfl, norow]
            exact .inr ⟨e0, rfl, np', pd, l8⟩
          · rw [if_neg (fun z : enc b = enc (boardOf x) => e (Enc.inj _ _ z).symm), if_neg e, List.append_nil]
            rcases each b with ⟨h1, h2⟩ | ⟨l', p1, p2, p3, p4⟩
            · refine .inl ⟨h1, ?_⟩
              rw [List.mem_append, List.mem_singleton]
              rintro (h | h)
              · exact h2 h
              · exact e h.symm
            · have ne : l' ≠ e0 := fun z => (p4.same s3).some (z ▸ ne0)
              exact .inr ⟨l', p1, p2, p3, ((p4.same s24).keep (a7 l' p3) t7).keep (a8 l' ne) t8⟩
        · have e1' : valV (putK kvs (enc (boardOf x)) (V.ref e0)) (enc b) = some (.ref l2) := e1
          have e2' : valV (putK kvs (enc (boardOf x)) (V.ref e0)) (enc b') = some (.ref l2) := e2
          rw [valV_put] at e1' e2'
          have old : ∀ b, valV kvs (enc b) = some (.ref e0) → False := fun b e => by
            rcases each b with ⟨h, _⟩ | ⟨l', p1, p2, p3, p4⟩
            · rw [h] at e
              cases e
            · rw [p1] at e
              cases e
              exact (p4.same s3).some ne0
          by_cases c1 : b = boardOf x
          · by_cases c2 : b' = boardOf x
            · rw [c1, c2]
            · rw [if_pos (congrArg enc c1)] at e1'
              rw [if_neg (fun z : enc b' = enc (boardOf x) => c2 (Enc.inj _ _ z))] at e2'
              cases e1'
              exact (old b' e2').elim
          · rw [if_neg (fun z : enc b = enc (boardOf x) => c1 (Enc.inj _ _ z))] at e1'
            by_cases c2 : b' = boardOf x
            · rw [if_pos (congrArg enc c2)] at e2'
              cases e2'
              exact (old b e1').elim
            · rw [if_neg (fun z : enc b' = enc (boardOf x) => c2 (Enc.inj _ _ z))] at e2'
              exact inj b b' l2 e1' e2'
    · rintro σ H2 ⟨⟨u2, rfl⟩, sm, bf⟩
      rw [hlen, List.take_length] at bf
      exact ⟨_, rfl, q d H2 nd sm bf.done⟩
end
end Fd

/-! Ways into a place. -/
namespace Fd
open PySem PySem.Spec PyProof.Rows L2
open Enc (enc)
theorem waysAt_snoc (web : List (List Nat)) (lot : List Nat) (j : Nat) : waysAt (web ++ [lot]) j = waysAt web j ++ (if j ∈ lot then [lot.filter fun q => decide (q ≤ j)] else []) := by
  unfold waysAt
  rw [List.filter_append, List.map_append]
  by_cases h : j ∈ lot
  · simp [h]
  · simp [h]
theorem waysAt_len (web : List (List Nat)) (j : Nat) : (waysAt web j).length ≤ web.length := by
  unfold waysAt
  rw [List.length_map]
  exact List.length_filter_le _ _
theorem mem_enc {α : Type} [Enc α] [DecidableEq α] (x : α) (xs : List α) : decide (enc x ∈ xs.map enc) = decide (x ∈ xs) := by
  refine decide_eq_decide.mpr ?_
  rw [List.mem_map]
  constructor
  · rintro ⟨y, h1, h2⟩
    exact (Enc.inj _ _ h2) ▸ h1
  · intro h
    exact ⟨x, h, rfl⟩
section
variable {P : Program} {w : World} {K : PySem.W.Frag} {mg : Str → Option Value} {base : Heap}
def spWays (P : Program) (w : World) : Sp := fun vs H Q _ => ∃ (v : V) (l : Addr) (web : List (List Nat)) (rows : List (List Stp)) (n j : Nat), vs = [v, .ref l, .int j] ∧ Is H web v ∧ Ls H l rows ∧ WebOk n web ∧ rows.length ≤ 1000 ∧ (∀ r ∈ rows, r.length = n) ∧
  ∀ l' H', H l' = none → Same H H' → Ways P w H' l' (waysAt web j) rows → Q (.ref l') H'
theorem ok_ways_into (B : Bi mg) (o_part_of : Ok P w K mg base 1 "part_of" ["steps", "lot"] spPart) (d : Df K mg "ways_into" "ways_into" s_ways_into ["web", "rows", "place"]) : Ok P w K mg base 2 "ways_into" ["web", "rows", "place"] (spWays P w) := by
  refine d.ok sc_ways_into (fun vs H Q E h => ?_) (fun f cdv A outer s H vs Q E hr h => ?_)
  · obtain ⟨v, l, web, rows, n, j, rfl, _⟩ := h
    rfl
  · obtain ⟨v, l, web, rows, n, j, rfl, hw, hl, wok, rz, rn, q⟩ := h
    refine ⟨_, (pss_cons (pss 3 sc_ways_into.nd (pe_lstD pa_nil))
      (pss_cons (ps_for PassesOwn.never rfl (pi_tup (pv 0)) (pgn 4 sc_ways_into.nd)
        (pss_cons (pss 5 sc_ways_into.nd (pe_callTy cr_tupD (by rfl) B.tuple (by decide +kernel) (pa_cons (pe_lc (own := [("other", 6)]) rfl sc_ways_into.nd (pi_tup (pv 4)) (blkOk_by (N := ["web", "rows", "place", "found", "lot", "ahead", "other", "row"]) (sc := defScope s_ways_into) (by decide +kernel)) (fun _ _ _ _ _ => (pgn 6 sc_ways_into.nd)) (fun _ _ _ _ _ => (pts_one (pt_cmpR op_le (pv 6) (pv 2) (nomark _)))) (fun _ _ _ _ _ => (pv 6))) pa_nil)))
        (pss_one (ps_if (pt_cmpR (op_inN hr.units) (pv 2) (pv 4) (by rfl))
          (pss_one (ps_expr (pe_bm PySem.F.plainAttrs_list PySem.F.slot_list_append PySem.F.type_list_append mt_append (pv 3) (pa_cons (pe_tup (pa_cons (pv 5) (pa_cons (pe_dcN (own := [("row", 7)]) hr.units rfl sc_ways_into.nd (pi_list (pv 1)) (blkOk_by (N := ["web", "rows", "place", "found", "lot", "ahead", "other", "row"]) (sc := defScope s_ways_into) (by decide +kernel)) (fun _ _ _ _ _ => (pgn 7 sc_ways_into.nd)) (fun _ _ _ _ _ => (pe_fn o_part_of hr (pa_cons (pv 7) (pa_cons (pv 5) pa_nil)))) (fun _ _ _ _ _ => pe_bl)) pa_nil))) pa_nil))))
          pss_nil))))
      (pss_one (ps_ret (pv 3))))), ?_⟩
    refine ⟨[], dats_nil, Nat.zero_le _, fun fl Bh nfl aB lB => ?_⟩
    have sB : Same H Bh := aB.same nfl
    obtain ⟨fv, hfv, hfd⟩ := lB
    rw [dats_of_nil hfd] at hfv
    obtain ⟨a, xs, rfl, ha, hxs⟩ := dat_tup.mp (hw.same sB)
    have hlen := dats_len hxs
    rw [List.length_map] at hlen
    have ntl : ∀ xs, Bh fl ≠ some (.tup xs) := fun xs e => by
      rw [hfv] at e
      cases e
    have nlf : l ≠ fl := fun z => hl.some (z ▸ nfl)
    have hlB : Ls Bh l rows := hl.same sB
    refine ⟨_, rfl, a, rfl, ⟨xs, SqT.of ha⟩, for_tup (xs := xs) (fun i σ H' => (∃ u4 u5 : Option V, σ = [some (.ref a), some (.ref l), some (.int j), some (.ref fl), u4, u5, none, none]) ∧ Sd fl Bh H' ∧ Ways P w H' fl (waysAt (web.take i) j) rows)
      ⟨⟨none, none, rfl⟩, Sd.refl _, [], hfv, rfl, fun k lot e => by simp [waysAt] at e⟩ (fun i σ H' _ p => SqT.of (p.2.1 _ _ ha fun z => ntl xs (z ▸ ha))) ?_ ?_⟩
    · rintro i v σ H2 hv ⟨⟨u4, u5, rfl⟩, sd, ws⟩
      obtain ⟨dd, g1, g2⟩ := dats_getV hxs hv
      rw [List.getElem?_map] at g1
      obtain ⟨lot, hlot, rfl⟩ := Option.map_eq_some_iff.mp g1
      obtain ⟨lk1, lk2, lk3⟩ := wok.1 lot (List.mem_of_getElem? hlot)
      have i2 : Is H2 lot v := g2.sd sd ntl
      have sm2 : Same H H2 := sd_same sB nfl sd
      obtain ⟨b, ys, rfl, hb, hys⟩ := dat_tup.mp i2
      have hlen2 := dats_len hys
      rw [List.length_map] at hlen2
      refine ⟨_, rfl, b, rfl, ⟨ys, SqT.of hb⟩, fun D hD => lc_is walk_tup (fun k => lot[k]?.bind fun q => if decide (q ≤ j) = true then some q else none) (by have := sizeLine_eq; omega) hD (fun H' sm => SqT.of (sm _ _ hb)) (fun k y H3 hy s3 => ?_) ?_ ?_⟩
      · obtain ⟨dm, k1, k2⟩ := dats_getV hys hy
        rw [List.getElem?_map] at k1
        obtain ⟨q, hq, rfl⟩ := Option.map_eq_some_iff.mp k1
        have hy' : y = .int q := is_nat.mp k2
        subst hy'
        rw [hq]
        intro Q' q'
        refine ⟨_, rfl, _, rfl, _, _, rfl, rfl, _, rfl, ?_⟩
        have e : decide ((q : Int) ≤ (j : Int)) = ((some q : Option Nat).bind fun q => if decide (q ≤ j) = true then some q else none).isSome := by
          show _ = (if decide (q ≤ j) = true then some q else none).isSome
          by_cases h : q ≤ j
          · rw [decide_eq_true h, decide_eq_true (by omega)]
            rfl
          · rw [decide_eq_false h, decide_eq_false (by omega)]
            rfl
        show Q' (decide ((q : Int) ≤ (j : Int))) H3
        rw [e]
        exact q' _ (Same.refl _)
      · intro k y H3 g hy s3 hg Q' q'
        obtain ⟨dm, k1, k2⟩ := dats_getV hys hy
        rw [List.getElem?_map] at k1
        obtain ⟨q, hq, rfl⟩ := Option.map_eq_some_iff.mp k1
        rw [hq] at hg
        have hg2 : (if decide (q ≤ j) = true then some q else none) = some g := hg
        by_cases h : decide (q ≤ j) = true
        · rw [if_pos h] at hg2
          cases hg2
          exact ⟨_, rfl, q' _ _ (Same.refl _) (k2.same s3)⟩
        · rw [if_neg h] at hg2
          cases hg2
      · intro H3 s3 l3
        rw [hlen2, outs_filterMap (fun _ => rfl), fm_filter (fun q => decide (q ≤ j))] at l3
        refine ⟨D, _, rfl, l3, fun av H4 s4 hav => ?_⟩
        have s24 : Same H2 H4 := s3.trans s4
        refine ⟨_, rfl, _, rfl, enc j, _, is_nat.mpr rfl, ⟨b, ys, rfl, .inr (SqT.of (s24 _ _ hb)), hys.same s24⟩, okd _, fun e he => ?_, _, rfl, ?_⟩
        · obtain ⟨m, _, rfl⟩ := List.mem_map.mp he
          exact okd _
        have e : decide (enc j ∈ lot.map enc) = decide (j ∈ lot) := mem_enc j lot
        show (if decide (enc j ∈ lot.map enc) = true then _ else _)
        rw [e]
        have ws4 := ws.same s24
        have tk := take_snoc hlot
        by_cases hj : j ∈ lot
        · refine iteT' (decide_eq_true hj) ?_
          obtain ⟨refs, r1, r2, r3⟩ := id ws4
          refine ⟨_, rfl, .inl ⟨rfl, _, SqL.of r1⟩, _, rfl, ?_⟩
          obtain ⟨rv, hrv, hrd⟩ := hl.same (sm2.trans s24)
          have hrl := dats_len hrd
          rw [List.length_map] at hrl
          refine ⟨_, rfl, l, rfl, ⟨rv, SqL.of hrv⟩, fun dn H5 ndn a5 d5 => ?_⟩
          refine dcn_set walk_list (rows.map fun r => partOf r (lot.filter fun q => decide (q ≤ j))) (by rw [List.length_map]; omega) (by omega) ndn a5 d5 (fun x => ⟨_, rfl⟩) (by decide) (fun H' sm => SqL.of (sm _ _ hrv)) (fun k y H6 bb hy s6 hbb Q' q' => ?_) fun H6 s6 set6 => ?_
          · obtain ⟨dm, k1, k2⟩ := dats_getV hrd hy
            rw [List.getElem?_map] at k1
            obtain ⟨r, hr, rfl⟩ := Option.map_eq_some_iff.mp k1
            rw [List.getElem?_map, hr] at hbb
            cases hbb
            refine ⟨_, rfl, _, rfl, _, _, r, lot.filter fun q => decide (q ≤ j), rfl, k2.same s6, hav.same s6, fun q hq => ?_, Nat.le_trans (List.length_filter_le _ _) lk3, fun v' H7 s7 h7 => q' v' _ s7 h7⟩
            rw [rn r (List.mem_of_getElem? hr)]
            exact lk2 q (List.mem_filter.mp hq).1
          · refine ⟨by show 2 ≤ sizeLine; rw [sizeLine_eq]; omega, fun t nt => ?_⟩
            have s47 : Same H4 (upd H6 t (.tup [av, .ref dn])) := s6.trans (same_new nt)
            have ws7 := ws4.same s47
            generalize hH7 : upd H6 t (.tup [av, .ref dn]) = H7 at *
            have ht : H7 t = some (.tup [av, .ref dn]) := by
              rw [← hH7]
              exact upd_same
            have s67 : Same H6 H7 := by
              rw [← hH7]
              exact same_new nt
            have r17 : H7 fl = some (.lst refs) := s47 _ _ r1
            have w7 : Way P w H7 (.ref t) (lot.filter fun q => decide (q ≤ j)) rows := ⟨t, dn, av, rfl, ht, hav.same s47, set6.same s67⟩
            have wl := waysAt_len (web.take i) j
            have tl : (web.take i).length ≤ web.length := by rw [List.length_take]; omega
            have wz := wok.2
            refine ⟨fl, refs, .ref t, rfl, rfl, r17, by rw [sizeLine_eq]; omega, ⟨_, _, rfl⟩, fun b o eb nb => ?_, refs ++ [.ref t], upd_same, ?_, fun k lt hk => ?_⟩
            · rw [upd_ne nb]
              exact s47 _ _ (s24 _ _ (sd _ _ eb nb))
            · rw [tk, waysAt_snoc, if_pos hj, List.length_append, List.length_append, r2]
              rfl
            · rw [tk, waysAt_snoc, if_pos hj] at hk
              by_cases hk2 : k < (waysAt (web.take i) j).length
              · rw [List.getElem?_append_left hk2] at hk
                obtain ⟨v1, e1, e2⟩ := r3 k lt hk
                exact ⟨v1, by rw [List.getElem?_append_left (by omega)]; exact e1, (e2.same s47).sd r17 sd_upd⟩
              · rw [List.getElem?_append_right (by omega)] at hk
                have hk3 : k - (waysAt (web.take i) j).length = 0 := by
                  have := (List.getElem?_eq_some_iff.mp hk).1
                  simp at this
                  omega
                rw [hk3] at hk
                cases hk
                exact ⟨.ref t, by rw [List.getElem?_append_right (by omega), r2, hk3]; rfl, w7.sd r17 sd_upd⟩
        · refine iteF' (decide_eq_false hj) ⟨⟨_, _, rfl⟩, sd.trans (Same.sd s24), ?_⟩
          rw [tk, waysAt_snoc, if_neg hj, List.append_nil]
          exact ws4
    · rintro σ H2 ⟨⟨u4, u5, rfl⟩, sd, ws⟩
      rw [hlen, List.take_length] at ws
      exact ⟨_, rfl, q fl H2 nfl (sd_same sB nfl sd) ws⟩
end
end Fd

/-! Rows alike. -/
namespace Fd
open PySem PySem.Spec PyProof.Rows L2
open Enc (enc)
abbrev s_like_rows : Stmt := topS 38
theorem sc_like_rows : FnScope ["office", "marks", "web", "rows", "ways", "found", "waiting", "steps", "step", "more", "place", "lot", "parts"] ["office", "marks", "web", "rows"] (defScope s_like_rows) := ⟨rfl, rfl, rfl, by decide +kernel, rfl, by decide +kernel, by decide +kernel⟩
theorem yes_of {σ : L2.St} {H : Hp} {A B : Hp → Prop} (h : A H) : tYes σ H fun b H3 => if b = true then A H3 else B H3 := by
  show if true = true then A H else B H
  exact iteT' rfl h
section
variable {P : Program} {w : World} {K : PySem.W.Frag} {mg : Str → Option Value} {base : Heap}
def spLike (P : Program) (w : World) (C : Addr) : Sp := fun vs H Q _ => ∃ (x : Addr) (vm vw : V) (l : Addr) (p : Pts) (marks : List Nat) (web : List (List Nat)) (rows : List (List Stp)), vs = [.ref x, vm, vw, .ref l] ∧ Off P w C H x p.z p.mv p.cl ∧ PtsOk p ∧ Is H marks vm ∧ marks.length ≤ 6 ∧
  Is H web vw ∧ WebOk marks.length web ∧ Ls H l rows ∧ rows.length ≤ 1000 ∧ (∀ r ∈ rows, r.length = marks.length) ∧ (p.z.s * p.z.a) ^ marks.length ≤ 400 ∧
  ∀ l' H', H l' = none → Same H H' → Ls H' l' (likeRows p.z web rows marks) → Q (.ref l') H'
set_option maxHeartbeats 8000000 in
theorem ok_like_rows {C : Addr} (B : Bi mg) (Cm : Cs mg) (o_ways_into : Ok P w K mg base 2 "ways_into" ["web", "rows", "place"] (spWays P w)) (o_steps_with : Ok P w K mg base 2 "steps_with" ["office", "mark"] (spStepsWith P w C)) (o_part_of : Ok P w K mg base 1 "part_of" ["steps", "lot"] spPart)
    (d : Df K mg "like_rows" "like_rows" s_like_rows ["office", "marks", "web", "rows"]) : Ok P w K mg base 3 "like_rows" ["office", "marks", "web", "rows"] (spLike P w C) := by
  refine d.ok sc_like_rows (fun vs H Q E h => ?_) (fun f cdv A outer s H vs Q E hr h => ?_)
  · obtain ⟨x, vm, vw, l, p, marks, web, rows, rfl, _⟩ := h
    rfl
  · obtain ⟨x, vm, vw, l, p, marks, web, rows, rfl, off, ok, hm, n6, hw, wok, hl, rz, rn, few, q⟩ := h
    have C := Cm
    refine ⟨_, (pss_cons (ps_setLc (i := 4) (own := [("place", 10)]) rfl sc_like_rows.nd rfl rfl (sw_true rfl rfl rfl (by decide +kernel)) (pi_range1 rfl B.range (pa_cons (pe_callB cr_lenD (by rfl) B.len (by decide +kernel) (pa_cons (pv 1) pa_nil)) pa_nil)) (blkOk_by (N := ["office", "marks", "web", "rows", "ways", "found", "waiting", "steps", "step", "more", "place", "lot", "parts"]) (sc := defScope s_like_rows) (by decide +kernel)) (fun _ _ _ _ _ => (pgn 10 sc_like_rows.nd)) (fun _ _ _ _ _ => pts_nil) (fun _ _ _ _ _ => (pe_fn o_ways_into hr (pa_cons (pv 2) (pa_cons (pv 3) (pa_cons (pv 10) pa_nil))))))
      (pss_cons (pss 5 sc_like_rows.nd (pe_lstD pa_nil))
      (pss_cons (pss 6 sc_like_rows.nd (pe_lstD (pa_cons (pe_tupD pa_nil) pa_nil)))
      (pss_cons (ps_while PassesOwn.never (pt_cmpR op_gt (pe_callB cr_lenD (by rfl) B.len (by decide +kernel) (pa_cons (pv 6) pa_nil)) pe_int (nomark _))
        (pss_cons (pss 7 sc_like_rows.nd (pe_bm0 PySem.F.plainAttrs_list PySem.F.slot_list_pop PySem.F.type_list_pop mt_popD (pv 6)))
        (pss_one (ps_if (pt_cmpR op_eq (pe_callB cr_lenD (by rfl) B.len (by decide +kernel) (pa_cons (pv 7) pa_nil)) (pe_callB cr_lenD (by rfl) B.len (by decide +kernel) (pa_cons (pv 1) pa_nil)) (nomark _))
          (pss_cons (ps_expr (pe_bm PySem.F.plainAttrs_list PySem.F.slot_list_append PySem.F.type_list_append mt_appD (pv 5) (pa_cons (pv 7) pa_nil)))
          (pss_one (ps_if (pt_cmpR op_gt (pe_callB cr_lenD (by rfl) B.len (by decide +kernel) (pa_cons (pv 5) pa_nil)) (pe_op op_add (pe_gi C.MOST_DAYS) (pe_callB cr_lenD (by rfl) B.len (by decide +kernel) (pa_cons (pv 3) pa_nil))) (nomark _))
            (pss_one ps_never)
            pss_nil)))
          (pss_one (ps_for PassesOwn.never rfl (pi_list (pe_fn o_steps_with hr (pa_cons (pv 0) (pa_cons (pe_ix ix_dat (pv 1) (pe_callB cr_lenD (by rfl) B.len (by decide +kernel) (pa_cons (pv 7) pa_nil)) (fun _ _ => rfl)) pa_nil)))) (pgn 8 sc_like_rows.nd)
            (pss_cons (pss 9 sc_like_rows.nd (pe_op op_catD (pv 7) (pe_tupD (pa_cons (pv 8) pa_nil))))
            (pss_one (ps_if (pt_val (pe_callB (cr_all rfl) (by rfl) B.all (by decide +kernel) (pa_cons (pe_lc (own := [("lot", 11), ("parts", 12)]) rfl sc_like_rows.nd (pi_list (pe_ix ix_list (pv 4) (pe_callB cr_lenD (by rfl) B.len (by decide +kernel) (pa_cons (pv 7) pa_nil)) (fun _ _ => rfl))) (blkOk_by (N := ["office", "marks", "web", "rows", "ways", "found", "waiting", "steps", "step", "more", "place", "lot", "parts"]) (sc := defScope s_like_rows) (by decide +kernel)) (fun _ _ _ _ _ => (pg_tupK K rfl (n := 2) rfl (pgs_cons (pgn 11 sc_like_rows.nd) (pgs_cons (pgn 12 sc_like_rows.nd) pgs_nil)))) (fun _ _ _ _ _ => pts_nil) (fun _ _ _ _ _ => (pe_cmpR (op_inDNP P w rfl rfl hr.units) (pe_fn o_part_of hr (pa_cons (pv 9) (pa_cons (pv 11) pa_nil))) (pv 12) (by rfl)))) pa_nil)))
              (pss_one (ps_expr (pe_bm PySem.F.plainAttrs_list PySem.F.slot_list_append PySem.F.type_list_append mt_appD (pv 6) (pa_cons (pv 9) pa_nil))))
              pss_nil)))))))))
      (pss_one (ps_ret (pv 5))))))), ?_⟩
    refine ⟨_, rfl, _, _, rfl, .inl hm, marks.length, by rw [List.length_map], by omega, by omega, fun wd hwd => ?_⟩
    rw [Int.toNat_natCast]
    refine lc_it walk_rng (fun i H' => Same H H' ∧ ∃ acc : List V, H' wd = some (.lst acc) ∧ acc.length = i ∧ ∀ k, k < i → ∃ l', acc[k]? = some (V.ref l') ∧ l' ≠ wd ∧ Ways P w H' l' (waysAt web k) rows)
      ⟨same_new hwd, [], upd_same, rfl, fun k hk => absurd hk (Nat.not_lt_zero _)⟩ (fun _ _ _ _ => trivial) ?_ ?_
    · rintro i y H1 H1' hi ⟨sm, acc, ha, hal, each⟩ ⟨rfl, hy⟩
      obtain ⟨hi2, rfl⟩ := rngV_get hy
      refine ⟨wipe_one, yes_of ?_⟩
      refine ⟨_, rfl, _, rfl, _, rfl, _, l, web, rows, marks.length, i, rfl, hw.same sm, hl.same sm, wok, rz, rn, fun l' H2 nl' s2 ws => ?_⟩
      have ha2 : H2 wd = some (.lst acc) := s2 _ _ ha
      have nlw : l' ≠ wd := fun z => by
        rw [z, ha] at nl'
        cases nl'
      refine ⟨acc, ha2, by rw [sizeLine_eq]; omega, At1.sameOf (sm.trans s2) at1_upd hwd, _, upd_same, by rw [List.length_append, hal]; rfl, fun k hk => ?_⟩
      by_cases hk2 : k < i
      · obtain ⟨l2, e1, e2, e3⟩ := each k hk2
        exact ⟨l2, by rw [List.getElem?_append_left (by omega)]; exact e1, e2, (e3.same s2).sd ha2 e2 sd_upd⟩
      · have e : k = i := by omega
        subst e
        exact ⟨l', by rw [List.getElem?_append_right (by omega), hal, Nat.sub_self]; rfl, nlw, ws.sd ha2 nlw sd_upd⟩
    · rintro H1 ⟨s1, wacc, hwa, hwl, each⟩
      rw [rngV_len] at hwl
      rw [rngV_len] at each
      refine ⟨[], dats_nil, Nat.zero_le _, fun fl H2 nfl a2 l2 => ?_⟩
      refine ⟨[], dats_nil, Nat.zero_le _, fun v3 H3 s3 h3 => ⟨_, dats_cons h3 dats_nil, by show 1 ≤ sizeLine; rw [sizeLine_eq]; omega, fun wl H4 nwl a4 l4 => ?_⟩⟩
      have s12 : Same H1 H2 := a2.same nfl
      have s13 : Same H1 H3 := s12.trans s3
      have s14 : Same H1 H4 := s13.trans (a4.same nwl)
      have nw1 : H1 wl = none := s13.free nwl
      have nfw : fl ≠ wl := fun z => (l2.same s3).some (z ▸ nwl)
      have lf4 : Lsd H4 fl [] := (l2.same s3).same (a4.same nwl)
      refine ⟨fun m σ H' => ∃ (found waiting : List (List Stp)) (u7 u8 u9 : Option V), σ = [some (.ref x), some vm, some vw, some (.ref l), some (.ref wd), some (.ref fl), some (.ref wl), u7, u8, u9, none, none, none] ∧ Same H1 H' ∧ Ls H' fl found ∧ Ls H' wl waiting ∧
        m = (waiting.map (size p.z web rows marks)).sum ∧ m ≤ 1000000 ∧ found ++ waiting.reverse.flatMap (full p.z web rows marks) = likeRows p.z web rows marks ∧ ∀ y ∈ waiting, y.length ≤ marks.length, ?_, ?_⟩
      · refine ⟨_, [], [[]], none, none, none, rfl, s14, lf4, l4, rfl, ?_, ?_, ?_⟩
        · rw [List.map_cons, List.map_nil, List.sum_cons, List.sum_nil]
          exact size_le ok.z n6 []
        · show [] ++ (full p.z web rows marks [] ++ []) = _
          rw [List.append_nil, List.nil_append]
          rfl
        · intro y hy
          rw [List.mem_singleton] at hy
          rw [hy]
          exact Nat.zero_le _
      rintro m σ H5 ⟨found, waiting, u7, u8, u9, rfl, sm, lF, lW, hmm, m6, fw, wlen⟩
      refine ⟨_, rfl, _, _, rfl, .inr ⟨wl, rfl, lW⟩, _, _, rfl, rfl, _, rfl, ?_⟩
      have foundlen : found.length ≤ 400 := by
        have h1 := congrArg List.length fw
        rw [List.length_append] at h1
        have h2 : (likeRows p.z web rows marks).length ≤ (p.z.s * p.z.a) ^ marks.length := fullF_len _ _
        omega
      rcases List.eq_nil_or_concat waiting with rfl | ⟨ws, wt, rfl⟩
      · refine iteF' (by decide) ?_
        have e : found = likeRows p.z web rows marks := by
          rw [← fw]
          simp
        rw [e] at lF
        exact ⟨_, rfl, q fl H5 (s1.free nfl) (s1.trans sm) lF⟩
      · rw [List.concat_eq_append] at *
        have c0 : decide ((0 : Int) < ((((ws ++ [wt]).map enc).length : Nat) : Int)) = true := by
          rw [List.length_map, List.length_append, List.length_singleton]
          exact decide_eq_true (by omega)
        refine iteT' c0 ⟨fun σ' H' => ∃ m', m' < m ∧ _, fun _ _ h => h, ?_⟩
        have wt6 : wt.length ≤ marks.length := wlen wt (List.mem_append_right _ List.mem_cons_self)
        have lW' : Lsd H5 wl (ws.map enc ++ [enc wt]) := by
          have := lW
          unfold Ls at this
          rw [List.map_append] at this
          exact this
        obtain ⟨wv, hwv, _⟩ := id lW'
        have hsum : m = (ws.map (size p.z web rows marks)).sum + size p.z web rows marks wt := by
          rw [hmm, List.map_append, List.sum_append]
          simp
        have wslen : ws.length ≤ 1000000 := by
          have := sum_len (size p.z web rows marks) (xs := ws) fun y _ => size_pos y
          omega
        refine ⟨_, rfl, .inl ⟨rfl, _, SqL.of hwv⟩, wl, _, _, rfl, rfl, lW', fun v7 H6 a6 lW6 h7 => ?_⟩
        have nt5 : ∀ xs, H5 wl ≠ some (.tup xs) := lW.ntup
        have t56 : Tx H5 H6 := a6.tx nt5
        have sm6 : Same H1 H6 := At1.sameOf sm a6 nw1
        have lF6 : Ls H6 fl found := lF.keep (a6 fl nfw) t56
        have h7 : Is H6 wt v7 := h7
        have hm6 : Is H6 marks vm := (hm.same s1).same sm6
        refine ⟨_, rfl, _, _, rfl, .inl h7, _, rfl, _, _, rfl, .inl hm6, rfl, _, rfl, ?_⟩
        by_cases full? : wt.length = marks.length
        · refine iteT' ?_ ?_
          · rw [List.length_map, List.length_map, full?]
            exact decide_eq_true rfl
          obtain ⟨fv, hfv⟩ := lsd_nd lF6
          refine ⟨_, rfl, .inl ⟨rfl, _, SqL.of hfv⟩, _, rfl, fl, _, enc wt, v7, rfl, rfl, lF6, h7, by rw [List.length_map, sizeLine_eq]; omega, fun H7 a7 l7 => ?_⟩
          have t67 : Tx H6 H7 := a7.tx lF6.ntup
          have sm7 : Same H1 H7 := At1.sameOf sm6 a7 nfl
          have lF7 : Ls H7 fl (found ++ [wt]) := lsd_app (ys := [wt]) l7
          have hfull : full p.z web rows marks wt = [wt] := full_done full?
          have fw' : (found ++ [wt]) ++ ws.reverse.flatMap (full p.z web rows marks) = likeRows p.z web rows marks := by
            rw [← fw, List.reverse_append, List.reverse_singleton, List.singleton_append, List.flatMap_cons, hfull, List.append_assoc]
          have fl2 : (found ++ [wt]).length ≤ 400 := by
            have h1 := congrArg List.length fw'
            rw [List.length_append (as := found ++ [wt])] at h1
            have h2 : (likeRows p.z web rows marks).length ≤ (p.z.s * p.z.a) ^ marks.length := fullF_len _ _
            omega
          refine ⟨_, rfl, _, _, rfl, .inr ⟨fl, rfl, lF7⟩, _, rfl, _, _, rfl, .inr ⟨l, rfl, (hl.same s1).same sm7⟩, _, _, rfl, rfl, _, _, rfl, rfl, _, rfl, ?_⟩
          refine iteF' ?_ ?_
          · rw [List.length_map, List.length_map]
            exact decide_eq_false (by omega)
          refine ⟨m - 1, ?_, found ++ [wt], ws, _, _, _, rfl, sm7, lF7, lW6.keep (a7 wl nfw.symm) t67, ?_, by omega, fw', fun y hy => wlen y (List.mem_append_left _ hy)⟩
          · have := size_pos (z := p.z) (web := web) (rows := rows) (marks := marks) wt
            omega
          · rw [size_done full?] at hsum
            omega
        · have lt : wt.length < marks.length := by omega
          refine iteF' ?_ ?_
          · rw [List.length_map, List.length_map]
            exact decide_eq_false fun e => full? (by injection e with e; omega)
          refine ⟨_, rfl, _, rfl, _, rfl, _, _, rfl, .inl h7, _, (wt.map enc).length, enc (marks.getD wt.length 0), hm6, rfl, ?_, fun v8 h8 => ?_⟩
          · rw [List.length_map, List.getElem?_map, getD_get lt]
            rfl
          have h8' : v8 = .int (marks.getD wt.length 0 : Nat) := is_nat.mp h8
          subst h8'
          refine ⟨x, _, p, rfl, (off.same s1).same sm6, ok, fun sl B2 nsl s7 lsl => ?_⟩
          obtain ⟨ys, hy, hys⟩ := id lsl
          have hlen2 := dats_len hys
          rw [List.length_map] at hlen2
          have lW7 : Ls B2 wl ws := lW6.same s7
          have ntw : ∀ xs, B2 wl ≠ some (.tup xs) := lW7.ntup
          have nsw : sl ≠ wl := fun z => lW6.some (z ▸ nsl)
          have sm7 : Same H1 B2 := sm6.trans s7
          have lF7 := lF6.same s7
          have h77 : Is B2 wt v7 := h7.same s7
          have st27 : (stepsM p.z (marks.getD wt.length 0)).length ≤ 27 := Nat.le_trans (List.length_filter_le _ _) ok.z.len
          refine ⟨sl, rfl, ⟨ys, SqL.of hy⟩, for_list (xs := ys) (fun j σ H' => (∃ u8 u9 : Option V, σ = [some (.ref x), some vm, some vw, some (.ref l), some (.ref wd), some (.ref fl), some (.ref wl), some v7, u8, u9, none, none, none]) ∧ Sd wl B2 H' ∧
              Ls H' wl (ws ++ ((stepsM p.z (marks.getD wt.length 0)).take j).filterMap fun st => if okStep web rows (wt ++ [st]) wt.length = true then some (wt ++ [st]) else none))
            ⟨⟨_, _, rfl⟩, Sd.refl _, by rw [List.take_zero, List.filterMap_nil, List.append_nil]; exact lW7⟩ (fun j σ H' _ p => SqL.of (p.2.1 _ _ hy nsw)) ?_ ?_⟩
          · rintro j y σ H8 hy8 ⟨⟨u8, u9, rfl⟩, sd8, lW8⟩
            obtain ⟨dd, k1, k2⟩ := dats_getV hys hy8
            rw [List.getElem?_map] at k1
            obtain ⟨st, hst, rfl⟩ := Option.map_eq_some_iff.mp k1
            have hst' : (stepsM p.z (marks.getD wt.length 0))[j]? = some st := hst
            have c1 : Is H8 st y := k2.sd sd8 ntw
            have c2 : Is H8 wt v7 := h77.sd sd8 ntw
            have sm8 : Same H1 H8 := sd_same sm7 nw1 sd8
            refine ⟨_, rfl, _, rfl, [enc st], dats_cons c1 dats_nil, by show 1 ≤ sizeLine; rw [sizeLine_eq]; omega, fun a1 Ha sa ha => ⟨_, _, c2.same sa, ha, by rw [List.length_map, sizeLine_eq]; show wt.length + 1 ≤ _; omega, fun mv Hb sb hb => ?_⟩⟩
            have hmore : Is Hb (wt ++ [st]) mv := by
              show Dat Hb (NestedKey.tup ((wt ++ [st]).map enc)) mv
              rw [List.map_append]
              exact hb
            have s8b : Same H8 Hb := sa.trans sb
            have smb : Same H1 Hb := sm8.trans s8b
            obtain ⟨l9, e1, e2, e3⟩ := each wt.length lt
            obtain ⟨refs, r1, r2, r3⟩ := e3.same smb
            refine ⟨_, rfl, _, rfl, _, _, rfl, .inl (c2.same s8b), wd, wacc, _, _, rfl, rfl, SqL.of (smb _ _ hwa), atI_nat (by rw [List.length_map]; exact e1), l9, rfl, ⟨refs, SqL.of r1⟩, fun D hD => ?_⟩
            have wlen2 := waysAt_len web wt.length
            have wz := wok.2
            refine lc_it walk_list (fun k H' => Same Hb H' ∧ H' D = some (.lst (((waysAt web wt.length).take k).map fun lot => V.bl (decide (partOf (wt ++ [st]) lot ∈ rows.map fun r => partOf r lot)))))
              ⟨same_new hD, by rw [List.take_zero]; exact upd_same⟩ (fun k H' _ p => SqL.of (p.1 _ _ r1)) ?_ ?_
            · rintro k vk H9 H9' hk ⟨s9, hD9⟩ ⟨rfl, hvk⟩
              have hk2 : k < (waysAt web wt.length).length := by omega
              have hlotk : (waysAt web wt.length)[k]? = some (waysAt web wt.length)[k] := List.getElem?_eq_getElem hk2
              obtain ⟨v', w1, w2⟩ := r3 k _ hlotk
              rw [hvk] at w1
              cases w1
              generalize (waysAt web wt.length)[k] = lot at *
              obtain ⟨t, dn, va, rfl, ht, hva, kvs, kd, kl, ks⟩ := w2.same s9
              have hin : ∃ lot0 ∈ web, lot = lot0.filter fun q => decide (q ≤ wt.length) := by
                have := List.mem_of_getElem? hlotk
                unfold waysAt at this
                obtain ⟨lot0, h1, h2⟩ := List.mem_map.mp this
                exact ⟨lot0, (List.mem_filter.mp h1).1, h2.symm⟩
              obtain ⟨lot0, hl0, rfl⟩ := hin
              refine ⟨t, _, rfl, SqT.of ht, rfl, _, _, rfl, _, _, rfl, rfl, rfl, yes_of ?_⟩
              refine ⟨_, rfl, _, rfl, mv, va, wt ++ [st], _, rfl, hmore.same s9, hva, fun q hq => ?_, Nat.le_trans (List.length_filter_le _ _) (wok.1 lot0 hl0).2.2, fun pv' H10 s10 hp => ?_⟩
              · have := of_decide_eq_true (List.mem_filter.mp hq).2
                rw [List.length_append, List.length_singleton]
                omega
              · refine ⟨_, rfl, _, dn, kvs, rfl, hp, okd (partOf (wt ++ [st]) (lot0.filter fun q => decide (q ≤ wt.length))), kd.same s10, _, s10 _ _ hD9, ?_, ?_, ?_⟩
                · rw [List.length_map, List.length_take, sizeLine_eq]
                  omega
                · exact fun b o eb => by
                    have nb : b ≠ D := fun z => by
                      rw [z, hD] at eb
                      cases eb
                    rw [upd_ne nb]
                    exact s10 _ _ (s9 _ _ eb)
                · rw [upd_same, take_snoc hlotk, List.map_append]
                  have e : (valV kvs (NestedKey.tup ((partOf (wt ++ [st]) (lot0.filter fun q => decide (q ≤ wt.length))).map enc))).isSome = decide (partOf (wt ++ [st]) (lot0.filter fun q => decide (q ≤ wt.length)) ∈ rows.map fun r => partOf r (lot0.filter fun q => decide (q ≤ wt.length))) := (ks (partOf (wt ++ [st]) (lot0.filter fun q => decide (q ≤ wt.length)))).trans (decide_eq_decide.mpr Iff.rfl)
                  show some (HO.lst (_ ++ [V.bl (valV kvs (NestedKey.tup ((partOf (wt ++ [st]) (lot0.filter fun q => decide (q ≤ wt.length))).map enc))).isSome])) = _
                  rw [e]
                  rfl
            · rintro H9 ⟨s9, hD9⟩
              rw [r2, List.take_length] at hD9
              have e4 : ((waysAt web wt.length).map fun lot => V.bl (decide (partOf (wt ++ [st]) lot ∈ rows.map fun r => partOf r lot))) = ((waysAt web wt.length).map fun lot => decide (partOf (wt ++ [st]) lot ∈ rows.map fun r => partOf r lot)).map V.bl := by rw [List.map_map]; rfl
              rw [e4] at hD9
              refine ⟨D, _, rfl, SqL.of hD9, _, rfl, ?_⟩
              rw [all_flags]
              have s89 : Same H8 H9 := s8b.trans s9
              have lW9 := lW8.same s89
              show (if okStep web rows (wt ++ [st]) wt.length = true then _ else _)
              have kl := List.length_filterMap_le (fun st => if okStep web rows (wt ++ [st]) wt.length = true then some (wt ++ [st]) else none) ((stepsM p.z (marks.getD wt.length 0)).take j)
              have tl : ((stepsM p.z (marks.getD wt.length 0)).take j).length ≤ (stepsM p.z (marks.getD wt.length 0)).length := by rw [List.length_take]; omega
              by_cases hok : okStep web rows (wt ++ [st]) wt.length = true
              · obtain ⟨wv9, hw9⟩ := lsd_nd lW9
                refine iteT' hok ⟨_, rfl, .inl ⟨rfl, _, SqL.of hw9⟩, _, rfl, wl, _, enc (wt ++ [st]), mv, rfl, rfl, lW9, hmore.same s9, ?_, fun H10 a10 l10 => ⟨⟨_, _, rfl⟩, fun b o eb nb => a10.sd b o (s89 _ _ (sd8 b o eb nb)) nb, ?_⟩⟩
                · rw [List.length_map, List.length_append, sizeLine_eq]
                  omega
                · rw [fm_take _ hst', if_pos hok, ← List.append_assoc]
                  exact lsd_app (ys := [wt ++ [st]]) l10
              · refine iteF' (Bool.eq_false_iff.mpr hok) ⟨⟨_, _, rfl⟩, fun b o eb nb => s89 _ _ (sd8 b o eb nb), ?_⟩
                rw [fm_take _ hst', if_neg hok, List.append_nil]
                exact lW9
          · rintro σ H8 ⟨⟨u8, u9, rfl⟩, sd8, lW8⟩
            have hl3 : ys.length = (stepsM p.z (marks.getD wt.length 0)).length := hlen2
            rw [hl3, List.take_length] at lW8
            have lW8' : Ls H8 wl (ws ++ kids p.z web rows marks wt) := lW8
            refine ⟨(ws.map (size p.z web rows marks)).sum + ((kids p.z web rows marks wt).map (size p.z web rows marks)).sum, ?_, found, ws ++ kids p.z web rows marks wt, _, _, _, rfl, sd_same sm7 nw1 sd8, lsd_sd lF7 nfw sd8 ntw, lW8', ?_, ?_, ?_, ?_⟩
            · rw [size_step lt] at hsum
              omega
            · rw [List.map_append, List.sum_append]
            · rw [size_step lt] at hsum
              omega
            · rw [← fw, List.reverse_append, List.reverse_append, List.reverse_singleton, List.singleton_append, List.flatMap_append, List.flatMap_cons, full_step lt]
            · intro y hy
              rcases List.mem_append.mp hy with h | h
              · exact wlen y (List.mem_append_left _ h)
              · rw [full_kid h]
                omega
end
end Fd

/-! False days on a board; without lots. -/
namespace Fd
open PySem PySem.Spec PyProof.Rows L2
open Enc (enc)
abbrev s_false_on_board : Stmt := topS 39
theorem sc_false_on_board : FnScope ["office", "the_board", "web", "rows", "known", "row", "steps"] ["office", "the_board", "web", "rows"] (defScope s_false_on_board) := ⟨rfl, rfl, rfl, by decide +kernel, rfl, by decide +kernel, by decide +kernel⟩
abbrev s_check_days : Stmt := topS 40
theorem sc_check_days : FnScope ["days"] ["days"] (defScope s_check_days) := ⟨rfl, rfl, rfl, by decide +kernel, rfl, by decide +kernel, by decide +kernel⟩
abbrev s_false_without_lots : Stmt := topS 41
theorem sc_false_without_lots : FnScope ["office", "many", "days", "slips", "answers", "marks", "number", "turn", "found", "known", "steps", "last", "day", "step"] ["office", "many", "days"] (defScope s_false_without_lots) := ⟨rfl, rfl, rfl, by decide +kernel, rfl, by decide +kernel, by decide +kernel⟩
instance : Enc (Option Day) where
  enc x := match x with
    | none => NestedKey.none
    | some d => enc d
  dep := Enc.dep Day
  wf x := by
    cases x with
    | none => rfl
    | some d => exact Enc.wf d
  hd x := by
    cases x with
    | none => exact Nat.zero_le _
    | some d => exact Enc.hd d
  inj x y h := by
    cases x with
    | none =>
      cases y with
      | none => rfl
      | some e => cases h
    | some d =>
      cases y with
      | none => cases h
      | some e => rw [Enc.inj d e h]
def falseOn (z : Sz) (web : List (List Nat)) (b : Brd) (rows : List (List Stp)) : List Day := (likeRows z web rows b.1).filterMap fun ss => if ss ∈ rows then none else some (ss, b.2)
theorem find_pre {α : Type} {f : α → Bool} {A B : List α} {d : α} (h : ∀ a ∈ A, f a = false) (hd : f d = true) : (A ++ d :: B).find? f = some d := by
  rw [List.find?_append, List.find?_eq_none.mpr fun a ha => by rw [h a ha]; exact Bool.false_ne_true]
  rw [List.find?_cons_of_pos hd]
  rfl
theorem split_at {α : Type} {xs : List α} {i : Nat} {x : α} (h : xs[i]? = some x) : xs = xs.take i ++ x :: xs.drop (i + 1) := by
  obtain ⟨hi, e⟩ := List.getElem?_eq_some_iff.mp h
  rw [← e, ← List.drop_eq_getElem_cons hi, List.take_append_drop]
section
variable {P : Program} {w : World} {K : PySem.W.Frag} {mg : Str → Option Value} {base : Heap}
def spCheckDays : Sp := fun vs H Q _ => ∃ (l : Addr) (ds : List Day), vs = [.ref l] ∧ Ls H l ds ∧ ds.length ≤ 2000 ∧ Q .non H
theorem ok_check_days (B : Bi mg) (C : Cs mg) (d : Df K mg "check_days" "check_days" s_check_days ["days"]) : Ok P w K mg base 1 "check_days" ["days"] spCheckDays := by
  refine d.ok sc_check_days (fun vs H Q E h => ?_) (fun f cdv A outer s H vs Q E hr h => ?_)
  · obtain ⟨l, ds, rfl, _⟩ := h
    rfl
  · obtain ⟨l, ds, rfl, hl, hz, q⟩ := h
    refine ⟨_, (pss_one (ps_if (pt_cmpR op_gt (pe_callB cr_lenD (by rfl) B.len (by decide +kernel) (pa_cons (pv 0) pa_nil)) (pe_gi C.MOST_DAYS) (nomark _))
        (pss_one ps_never)
        pss_nil)), ?_⟩
    refine ⟨_, rfl, _, _, rfl, .inr ⟨l, rfl, hl⟩, _, _, rfl, rfl, _, rfl, iteF' ?_ q⟩
    rw [List.length_map]
    exact decide_eq_false (by omega)
def spFalseOn (P : Program) (w : World) (C : Addr) : Sp := fun vs H Q _ => ∃ (x : Addr) (vb vw : V) (l : Addr) (p : Pts) (b : Brd) (web : List (List Nat)) (rows : List (List Stp)), vs = [.ref x, vb, vw, .ref l] ∧ Off P w C H x p.z p.mv p.cl ∧ PtsOk p ∧ Is H b vb ∧ b.1.length ≤ 6 ∧
  Is H web vw ∧ WebOk b.1.length web ∧ Ls H l rows ∧ rows.length ≤ 1000 ∧ (∀ r ∈ rows, r.length = b.1.length) ∧ (p.z.s * p.z.a) ^ b.1.length ≤ 400 ∧
  ∀ l' H', H l' = none → Same H H' → Ls H' l' (falseOn p.z web b rows) → Q (.ref l') H'
theorem ok_false_on_board {C : Addr} (B : Bi mg) (o_like_rows : Ok P w K mg base 3 "like_rows" ["office", "marks", "web", "rows"] (spLike P w C)) (d : Df K mg "false_on_board" "false_on_board" s_false_on_board ["office", "the_board", "web", "rows"]) :
    Ok P w K mg base 4 "false_on_board" ["office", "the_board", "web", "rows"] (spFalseOn P w C) := by
  refine d.ok sc_false_on_board (fun vs H Q E h => ?_) (fun f cdv A outer s H vs Q E hr h => ?_)
  · obtain ⟨x, vb, vw, l, p, b, web, rows, rfl, _⟩ := h
    rfl
  · obtain ⟨x, vb, vw, l, p, b, web, rows, rfl, off, ok, hb, n6, hw, wok, hl, rz, rn, few, q⟩ := h
    refine ⟨_, (pss_cons (pss 4 sc_false_on_board.nd (pe_dcN (own := [("row", 5)]) hr.units rfl sc_false_on_board.nd (pi_list (pv 3)) (blkOk_by (N := ["office", "the_board", "web", "rows", "known", "row", "steps"]) (sc := defScope s_false_on_board) (by decide +kernel)) (fun _ _ _ _ _ => (pgn 5 sc_false_on_board.nd)) (fun _ _ _ _ _ => (pv 5)) (fun _ _ _ _ _ => pe_bl)))
      (pss_one (ps_ret (pe_lc (own := [("steps", 6)]) rfl sc_false_on_board.nd (pi_list (pe_fn o_like_rows hr (pa_cons (pv 0) (pa_cons (pe_ix ix_dat (pv 1) pe_int (fun _ _ => rfl)) (pa_cons (pv 2) (pa_cons (pv 3) pa_nil)))))) (blkOk_by (N := ["office", "the_board", "web", "rows", "known", "row", "steps"]) (sc := defScope s_false_on_board) (by decide +kernel)) (fun _ _ _ _ _ => (pgn 6 sc_false_on_board.nd)) (fun _ _ _ _ _ => (pts_one (pt_cmpR (op_notInDNP P w rfl rfl hr.units) (pv 6) (pv 4) (by rfl)))) (fun _ _ _ _ _ => (pe_tupD (pa_cons (pv 6) (pa_cons (pe_ix ix_dat (pv 1) pe_int (fun _ _ => rfl)) pa_nil)))))))), ?_⟩
    obtain ⟨rv, hrv, hrd⟩ := id hl
    have hrl := dats_len hrd
    rw [List.length_map] at hrl
    refine ⟨_, rfl, l, rfl, ⟨rv, SqL.of hrv⟩, fun dn H1 ndn a1 d1 => ?_⟩
    refine dcn_set walk_list rows (by omega) (by omega) ndn a1 d1 (fun x => ⟨_, rfl⟩) (by decide) (fun H' sm => SqL.of (sm _ _ hrv)) (fun k y H6 bb hy s6 hbb Q' q' => ?_) fun H2 s2 set2 => ?_
    · obtain ⟨dm, k1, k2⟩ := dats_getV hrd hy
      rw [List.getElem?_map, hbb] at k1
      cases k1
      exact ⟨_, rfl, q' _ _ (Same.refl _) (k2.same s6)⟩
    · refine ⟨_, rfl, _, rfl, _, 0, _, hb.same s2, rfl, rfl, fun vm hm => ⟨_, rfl, _, rfl, x, vm, vw, l, p, b.1, web, rows, rfl, off.same s2, ok, hm, n6, hw.same s2, wok, hl.same s2, rz, rn, few, fun ll H3 nll s3 l3 => ?_⟩⟩
      obtain ⟨ys, hy, hys⟩ := id l3
      have hlen2 := dats_len hys
      rw [List.length_map] at hlen2
      have lk : (likeRows p.z web rows b.1).length ≤ 400 := Nat.le_trans (fullF_len _ _) few
      have s13 : Same H H3 := s2.trans s3
      refine ⟨ll, rfl, ⟨ys, SqL.of hy⟩, fun D hD => lc_is walk_list (fun k => (likeRows p.z web rows b.1)[k]?.bind fun ss => if ss ∈ rows then none else some ((ss, b.2) : Day)) (by have := sizeLine_eq; omega) hD (fun H' sm => SqL.of (sm _ _ hy)) (fun k y H4 hy4 s4 => ?_) ?_ ?_⟩
      · obtain ⟨dm, k1, k2⟩ := dats_getV hys hy4
        rw [List.getElem?_map] at k1
        obtain ⟨ss, hss, rfl⟩ := Option.map_eq_some_iff.mp k1
        rw [hss]
        intro Q' q'
        obtain ⟨kvs, kd, _, ks⟩ := set2.same (s3.trans s4)
        refine ⟨_, rfl, _, rfl, _, dn, kvs, rfl, k2.same s4, okd ss, kd, _, rfl, ?_⟩
        have e : (!(valV kvs (NestedKey.tup (ss.map enc))).isSome) = ((some ss : Option (List Stp)).bind fun ss => if ss ∈ rows then none else some ((ss, b.2) : Day)).isSome := by
          rw [show (valV kvs (NestedKey.tup (ss.map enc))).isSome = decide (ss ∈ rows) from (ks ss).trans (decide_eq_decide.mpr Iff.rfl)]
          show _ = (if ss ∈ rows then none else some ((ss, b.2) : Day)).isSome
          by_cases h : ss ∈ rows
          · rw [decide_eq_true h, if_pos h]
            rfl
          · rw [decide_eq_false h, if_neg h]
            rfl
        show Q' (!(valV kvs (NestedKey.tup (ss.map enc))).isSome) H4
        rw [e]
        exact q' _ (Same.refl _)
      · intro k y H4 g hy4 s4 hg Q' q'
        obtain ⟨dm, k1, k2⟩ := dats_getV hys hy4
        rw [List.getElem?_map] at k1
        obtain ⟨ss, hss, rfl⟩ := Option.map_eq_some_iff.mp k1
        rw [hss] at hg
        have hg2 : (if ss ∈ rows then none else some ((ss, b.2) : Day)) = some g := hg
        by_cases h : ss ∈ rows
        · rw [if_pos h] at hg2
          cases hg2
        · rw [if_neg h] at hg2
          cases hg2
          exact ⟨_, rfl, _, rfl, _, 1, _, (hb.same s13).same s4, rfl, rfl, fun v5 h5 => ⟨_, dats_cons (k2.same s4) (dats_cons h5 dats_nil), by show 2 ≤ sizeLine; rw [sizeLine_eq]; omega, fun u H5 s5 h5 => q' u _ s5 h5⟩⟩
      · intro H4 s4 l4
        rw [hlen2, outs_filterMap (fun _ => rfl)] at l4
        exact q D H4 (s13.free hD) (s13.trans s4) l4
def spFwl (P : Program) (w : World) (C : Addr) : Sp := fun vs H Q _ => ∃ (x : Addr) (l : Addr) (p : Pts) (n : Nat) (ds : List Day), vs = [.ref x, .int n, .ref l] ∧ Off P w C H x p.z p.mv p.cl ∧ PtsOk p ∧ Fits p n ∧ Ls H l ds ∧ ds.length ≤ 1000 ∧
  ∀ v H', Same H H' → Is H' ((allDays p.z n).find? fun d => decide (d ∉ ds)) v → Q v H'
theorem ok_false_without_lots {Ca : Addr} (T : TxtO K mg Ca) (B : Bi mg) (C : Cs mg) (o_all_steps : Ok P w K mg base 1 "all_steps" ["office"] (spAllSteps P w Ca)) (d : Df K mg "false_without_lots" "false_without_lots" s_false_without_lots ["office", "many", "days"]) :
    Ok P w K mg base 2 "false_without_lots" ["office", "many", "days"] (spFwl P w Ca) := by
  refine d.ok sc_false_without_lots (fun vs H Q E h => ?_) (fun f cdv A outer s H vs Q E hr h => ?_)
  · obtain ⟨x, l, p, n, ds, rfl, _⟩ := h
    rfl
  · obtain ⟨x, l, p, n, ds, rfl, off, ok, fit, hl, dz, q⟩ := h
    refine ⟨_, (pss_cons (ps_asg (pe_fld (pv 0) rfl) (pg_tupD rfl (pgs_cons (pgn 3 sc_false_without_lots.nd) (pgs_cons (pgn 4 sc_false_without_lots.nd) (pgs_cons (pgn 5 sc_false_without_lots.nd) pgs_nil)))))
      (pss_cons (pss 6 sc_false_without_lots.nd (pv 5))
      (pss_cons (ps_for PassesOwn.never rfl (pi_range1 rfl B.range (pa_cons (pv 1) pa_nil)) (pgn 7 sc_false_without_lots.nd)
        (pss_one (pss 6 sc_false_without_lots.nd (pe_op op_mul (pe_op op_mul (pe_op op_mul (pv 6) (pv 3)) (pv 4)) (pv 5)))))
      (pss_cons (ps_if (pt_cmpR op_gt (pe_op op_sub (pv 6) (pe_callB cr_lenD (by rfl) B.len (by decide +kernel) (pa_cons (pv 2) pa_nil))) (pe_gi C.MOST_DAYS) (nomark _))
        (pss_one ps_never)
        pss_nil)
      (pss_cons (pss 8 sc_false_without_lots.nd (pe_lstD (pa_cons (pe_tupD pa_nil) pa_nil)))
      (pss_cons (ps_for PassesOwn.never rfl (pi_range1 rfl B.range (pa_cons (pv 1) pa_nil)) (pgn 7 sc_false_without_lots.nd)
        (pss_one (ps_setLc2 (i := 8) (own := [("steps", 10), ("step", 13)]) (vs1 := [13]) rfl sc_false_without_lots.nd rfl rfl (sw_true rfl rfl rfl (by decide +kernel)) (pi_list (pv 8)) (blkOk_by (N := ["office", "many", "days", "slips", "answers", "marks", "number", "turn", "found", "known", "steps", "last", "day", "step"]) (sc := defScope s_false_without_lots) (by decide +kernel)) (by decide) (fun _ _ _ _ _ => (pgn 10 sc_false_without_lots.nd)) (fun _ _ _ _ _ => pts_nil) (fun _ _ _ _ _ => (pi_listK K rfl (pe_fn o_all_steps hr (pa_cons (pv 0) pa_nil)))) (fun _ _ _ _ _ => (pgn 13 sc_false_without_lots.nd)) (fun _ _ _ _ _ => pts_nil) (fun _ _ _ _ _ => (pe_op op_catD (pv 10) (pe_tupD (pa_cons (pv 13) pa_nil)))))))
      (pss_cons (ps_setDcN (i := 9) (own := [("day", 12)]) hr.units rfl sc_false_without_lots.nd rfl rfl (sw_trueD rfl rfl rfl (by decide +kernel)) (pi_list (pv 2)) (blkOk_by (N := ["office", "many", "days", "slips", "answers", "marks", "number", "turn", "found", "known", "steps", "last", "day", "step"]) (sc := defScope s_false_without_lots) (by decide +kernel)) (fun _ _ _ _ _ => (pgn 12 sc_false_without_lots.nd)) (fun _ _ _ _ _ => (pv 12)) (fun _ _ _ _ _ => pe_bl))
      (pss_cons (ps_for PassesOwn.never rfl (pi_list (pv 8)) (pgn 10 sc_false_without_lots.nd)
        (pss_one (ps_for PassesOwn.never rfl (pi_range1 rfl B.range (pa_cons (pv 5) pa_nil)) (pgn 11 sc_false_without_lots.nd)
          (pss_one (ps_if (pt_cmpR (op_notInDN hr.units) (pe_tupD (pa_cons (pv 10) (pa_cons (pv 11) pa_nil))) (pv 9) (by rfl))
            (pss_one (ps_ret (pe_tupD (pa_cons (pv 10) (pa_cons (pv 11) pa_nil)))))
            pss_nil)))))
      (pss_one (ps_ret pe_non)))))))))), ?_⟩
    have n1 := fit.lo
    have n6 := fit.hi
    have zm := ok.m.2
    obtain ⟨dx, fs, v1, v2, v3, lk, refs, h1, h2, h3, h4, h5, h6, h7, h8, h9, h10, h11⟩ := off.ex
    refine ⟨_, rfl, x, Ca, dx, fs, v1, rfl, h1, T.cl, T.nS, h2, _, h6, rfl, fun xs hxs => ?_⟩
    obtain ⟨x1, r1, rfl, d1, g1⟩ := dats_of_cons hxs
    obtain ⟨x2, r2, rfl, d2, g2⟩ := dats_of_cons g1
    obtain ⟨x3, r3, rfl, d3, g3⟩ := dats_of_cons g2
    rw [dat_num] at d1 d2 d3
    subst d1 d2 d3
    have g4 := dats_of_nil g3
    subst g4
    refine ⟨_, _, rfl, _, _, rfl, _, _, rfl, rfl, ?_⟩
    refine ⟨_, rfl, _, rfl, n, rfl, by omega, by omega, ?_⟩
    rw [Int.toNat_natCast]
    refine for_range (lo := 0) (n := n) (fun t σ H' => (∃ u7 : Option V, σ = [some (.ref x), some (.int n), some (.ref l), some (.int p.z.s), some (.int p.z.a), some (.int p.z.m), some (.int ((p.z.m * (p.z.s * p.z.a * p.z.m) ^ t : Nat) : Int)), u7, none, none, none, none, none, none]) ∧ H' = H)
      ⟨⟨none, by rw [Nat.pow_zero, Nat.mul_one]; rfl⟩, rfl⟩ ?_ ?_
    · rintro t σ H1 ht ⟨⟨u7, rfl⟩, rfl⟩
      have q1 := ok.s
      have q2 := ok.a
      have q3 := ok.m
      refine ⟨_, rfl, _, rfl, _, _, rfl, rfl, .inr ⟨by omega, by omega⟩, _, rfl, _, _, rfl, rfl, .inr ⟨by omega, by omega⟩, _, rfl, _, _, rfl, rfl, .inr ⟨by omega, by omega⟩, ⟨some (.int (0 + (t : Int))), ?_⟩, rfl⟩
      have e : ((p.z.m * (p.z.s * p.z.a * p.z.m) ^ t : Nat) : Int) * (p.z.s : Int) * (p.z.a : Int) * (p.z.m : Int) = ((p.z.m * (p.z.s * p.z.a * p.z.m) ^ (t + 1) : Nat) : Int) := by
        rw [Nat.pow_succ]
        simp only [Int.natCast_mul]
        rw [Int.mul_assoc, Int.mul_assoc, Int.mul_assoc, Int.mul_assoc (p.z.s : Int)]
      rw [← e]
      rfl
    · rintro σ H1 ⟨⟨u7, rfl⟩, rfl⟩
      refine ⟨_, rfl, _, rfl, _, _, rfl, .inr ⟨l, rfl, hl⟩, _, _, rfl, rfl, _, _, rfl, rfl, _, rfl, iteF' ?_ ?_⟩
      · have := fit.few
        exact decide_eq_false (by omega)
      refine ⟨[], dats_nil, Nat.zero_le _, fun v3 H3 s3 h3 => ⟨_, dats_cons h3 dats_nil, by show 1 ≤ sizeLine; rw [sizeLine_eq]; omega, fun fd H4 nfd a4 l4 => ?_⟩⟩
      have nf0 : H1 fd = none := s3.free nfd
      have s04 : Same H1 H4 := s3.trans (a4.same nfd)
      refine ⟨_, rfl, n, rfl, by omega, by omega, ?_⟩
      rw [Int.toNat_natCast]
      refine for_range (lo := 0) (n := n) (fun t σ H' => ∃ (fd : Addr) (u6 u7 : Option V), σ = [some (.ref x), some (.int n), some (.ref l), some (.int p.z.s), some (.int p.z.a), some (.int p.z.m), u6, u7, some (.ref fd), none, none, none, none, none] ∧ Same H1 H' ∧ Ls H' fd (rowsN p.z t))
        ⟨fd, _, _, rfl, s04, l4⟩ ?_ ?_
      · rintro t σ H5 ht ⟨fd, u6, u7, rfl, sm, lf⟩
        obtain ⟨xs, hx, hxs⟩ := id lf
        have hlen := dats_len hxs
        rw [List.length_map] at hlen
        have l400 := rows_few ok fit (k := t) (by omega)
        have z27 := ok.z.len
        refine ⟨_, rfl, fd, rfl, ⟨xs, SqL.of hx⟩, fun D hD => ?_⟩
        refine lc2_is walk_list (by decide) (fun i => (allSteps p.z).map fun st => (rowsN p.z t).getD i [] ++ [st]) 27 (fun i _ => by rw [List.length_map]; exact z27) (by rw [sizeLine_eq]; omega) hD (fun H' sm => SqL.of (sm _ _ hx)) ?_ ?_
        · intro i y H6 hy s6 hDn R r
          obtain ⟨dd, g1, g2⟩ := dats_getV hxs hy
          rw [List.getElem?_map] at g1
          obtain ⟨ss, hss, rfl⟩ := Option.map_eq_some_iff.mp g1
          have ess : (rowsN p.z t).getD i [] = ss := by rw [List.getD_eq_getElem?_getD, hss]; rfl
          have i6 : Is H6 ss y := g2.same s6
          have st1 := (rowsN_mem.mp (List.mem_of_getElem? hss)).1
          refine ⟨_, rfl, x, p, rfl, (off.same sm).same s6, ok, fun sl H7 nsl s7 lsl => ?_⟩
          obtain ⟨ys, hys, hyd⟩ := id lsl
          have hlen2 := dats_len hyd
          rw [List.length_map] at hlen2
          obtain ⟨Dv, hDv⟩ := hDn
          have nsD : sl ≠ D := fun z => by
            rw [z, hDv] at nsl
            cases nsl
          refine ⟨sl, rfl, ⟨ys, SqL.of hys⟩, r _ ys _ H7 s7 walk_list (by rw [List.length_map]; exact hlen2) (fun H8 sd => SqL.of (sd _ _ hys nsD)) fun j y2 H8 c hy2 s8 sd8 hc Q' q' => ?_⟩
          obtain ⟨dd2, k1, k2⟩ := dats_getV hyd hy2
          rw [List.getElem?_map] at k1
          obtain ⟨st, hst, rfl⟩ := Option.map_eq_some_iff.mp k1
          have hc2 : ((allSteps p.z).map fun st => (rowsN p.z t).getD i [] ++ [st])[j]? = some c := hc
          rw [ess, List.getElem?_map, hst] at hc2
          cases hc2
          have ntD7 : ∀ xs, H7 D ≠ some (.tup xs) := fun xs e => by
            rw [s7 _ _ hDv] at e
            cases e
          have i8 : Is H8 ss y := (i6.same s7).sd sd8 ntD7
          refine ⟨_, rfl, _, rfl, [enc st], dats_cons (k2.sd sd8 ntD7) dats_nil, by show 1 ≤ sizeLine; rw [sizeLine_eq]; omega, fun u H9 s9 h9 => ⟨_, _, i8.same s9, h9, by rw [List.length_map, sizeLine_eq]; show ss.length + 1 ≤ _; omega, fun u2 H10 s10 h10 => q' u2 _ (s9.trans s10) ?_⟩⟩
          show Dat H10 (NestedKey.tup ((ss ++ [st]).map enc)) u2
          rw [List.map_append]
          exact h10
        · intro H6 s6 l6
          have e : (List.range xs.length).flatMap (fun i => (allSteps p.z).map fun st => (rowsN p.z t).getD i [] ++ [st]) = rowsN p.z (t + 1) := by
            rw [hlen]
            refine flat_get fun i ss hss => ?_
            rw [List.getD_eq_getElem?_getD, hss]
            rfl
          rw [e] at l6
          exact ⟨D, _, _, rfl, sm.trans s6, l6⟩
      · rintro σ H5 ⟨fd, u6, u7, rfl, sm, lf⟩
        obtain ⟨rv, hrv, hrd⟩ := hl.same sm
        have hrl := dats_len hrd
        rw [List.length_map] at hrl
        refine ⟨_, rfl, l, rfl, ⟨rv, SqL.of hrv⟩, fun dn H6 ndn a6 d6 => ?_⟩
        refine dcn_set walk_list ds (by omega) (by omega) ndn a6 d6 (fun x => ⟨_, rfl⟩) (by decide) (fun H' sm => SqL.of (sm _ _ hrv)) (fun k y H7 bb hy s7 hbb Q' q' => ?_) fun H7 s7 set7 => ?_
        · obtain ⟨dm, k1, k2⟩ := dats_getV hrd hy
          rw [List.getElem?_map, hbb] at k1
          cases k1
          exact ⟨_, rfl, q' _ _ (Same.refl _) (k2.same s7)⟩
        · obtain ⟨xs, hx, hxs⟩ := lf.same s7
          have hlen := dats_len hxs
          rw [List.length_map] at hlen
          have smH := sm.trans s7
          refine ⟨_, rfl, fd, rfl, ⟨xs, SqL.of hx⟩, for_list (xs := xs) (fun i σ H' => (∃ u6 u7 u10 u11 : Option V, σ = [some (.ref x), some (.int n), some (.ref l), some (.int p.z.s), some (.int p.z.a), some (.int p.z.m), u6, u7, some (.ref fd), some (.ref dn), u10, u11, none, none]) ∧ Same H7 H' ∧
              ∀ d ∈ ((rowsN p.z n).take i).flatMap (fun ss => (List.range p.z.m).map fun l => ((ss, l) : Day)), d ∈ ds)
            ⟨⟨_, _, _, _, rfl⟩, Same.refl _, fun d hd => nomatch hd⟩ (fun i σ H' _ p => SqL.of (p.2.1 _ _ hx)) ?_ ?_⟩
          · rintro i y σ H8 hy ⟨⟨u6, u7, u10, u11, rfl⟩, s8, all8⟩
            obtain ⟨dd, g1, g2⟩ := dats_getV hxs hy
            rw [List.getElem?_map] at g1
            obtain ⟨ss, hss, rfl⟩ := Option.map_eq_some_iff.mp g1
            refine ⟨_, rfl, p.z.m, rfl, by omega, by omega, ?_⟩
            rw [Int.toNat_natCast]
            refine for_range (lo := 0) (n := p.z.m) (fun j σ H' => (∃ u6 u7 u11 : Option V, σ = [some (.ref x), some (.int n), some (.ref l), some (.int p.z.s), some (.int p.z.a), some (.int p.z.m), u6, u7, some (.ref fd), some (.ref dn), some y, u11, none, none]) ∧ Same H7 H' ∧ ∀ j', j' < j → ((ss, j') : Day) ∈ ds)
              ⟨⟨_, _, _, rfl⟩, s8, fun j' hj => absurd hj (Nat.not_lt_zero _)⟩ ?_ ?_
            · rintro j σ H9 hj ⟨⟨u6, u7, u11, rfl⟩, s9, all9⟩
              obtain ⟨kvs, kd, _, ks⟩ := set7.same s9
              have iss : Is H9 ss y := g2.same s9
              refine ⟨_, rfl, _, rfl, [enc ss, .num j], dats_cons iss (dats_cons (dat_num.mpr (by rw [Int.zero_add])) dats_nil), by show 2 ≤ sizeLine; rw [sizeLine_eq]; omega, fun dv H10 s10 h10 => ⟨_, rfl, _, dn, kvs, rfl, h10, okd ((ss, j) : Day), kd.same s10, _, rfl, ?_⟩⟩
              have e : (valV kvs (NestedKey.tup [enc ss, .num j])).isSome = decide (((ss, j) : Day) ∈ ds) := (ks (ss, j)).trans (decide_eq_decide.mpr Iff.rfl)
              show (if (!(valV kvs (NestedKey.tup [enc ss, .num j])).isSome) = true then _ else _)
              rw [e]
              by_cases hin : ((ss, j) : Day) ∈ ds
              · refine iteF' (by rw [decide_eq_true hin]; rfl) ⟨⟨_, _, _, rfl⟩, s9.trans s10, fun j' hj' => ?_⟩
                by_cases h : j' < j
                · exact all9 j' h
                · have e : j' = j := by omega
                  exact e ▸ hin
              · refine iteT' (by rw [decide_eq_false hin]; rfl) ⟨_, rfl, _, rfl, [enc ss, .num j], dats_cons (iss.same s10) (dats_cons (dat_num.mpr (by rw [Int.zero_add])) dats_nil), by show 2 ≤ sizeLine; rw [sizeLine_eq]; omega, fun dv2 H11 s11 h11 => ?_⟩
                refine q dv2 H11 (((smH.trans s9).trans s10).trans s11) ?_
                have found : (allDays p.z n).find? (fun d => decide (d ∉ ds)) = some (ss, j) := by
                  have e1 : (allDays p.z n) = (((rowsN p.z n).take i).flatMap (fun ss => (List.range p.z.m).map fun l => ((ss, l) : Day)) ++ ((List.range p.z.m).take j).map fun l => ((ss, l) : Day)) ++ (ss, j) :: (((List.range p.z.m).drop (j + 1)).map (fun l => ((ss, l) : Day)) ++ ((rowsN p.z n).drop (i + 1)).flatMap fun ss => (List.range p.z.m).map fun l => ((ss, l) : Day)) := by
                    have r1 := split_at hss
                    have r2 : (List.range p.z.m) = (List.range p.z.m).take j ++ j :: (List.range p.z.m).drop (j + 1) := split_at (by rw [List.getElem?_range hj])
                    show (rowsN p.z n).flatMap (fun ss => (List.range p.z.m).map fun l => ((ss, l) : Day)) = _
                    conv => lhs; rw [r1]
                    rw [List.flatMap_append, List.flatMap_cons]
                    conv => lhs; rhs; lhs; rw [r2]
                    simp
                  rw [e1]
                  refine find_pre (fun a ha => ?_) (decide_eq_true hin)
                  refine decide_eq_false fun z => z ?_
                  rcases List.mem_append.mp ha with h | h
                  · exact all8 a h
                  · obtain ⟨k, k1, rfl⟩ := List.mem_map.mp h
                    refine all9 k ?_
                    rw [List.take_range] at k1
                    have := List.mem_range.mp k1
                    omega
                rw [found]
                exact h11
            · rintro σ H9 ⟨⟨u6, u7, u11, rfl⟩, s9, all9⟩
              refine ⟨⟨_, _, _, _, rfl⟩, s9, fun d hd => ?_⟩
              rw [flat_take _ hss] at hd
              rcases List.mem_append.mp hd with h | h
              · exact all8 d h
              · obtain ⟨k, k1, rfl⟩ := List.mem_map.mp h
                exact all9 k (List.mem_range.mp k1)
          · rintro σ H8 ⟨⟨u6, u7, u10, u11, rfl⟩, s8, all8⟩
            rw [hlen, List.take_length] at all8
            refine q .non H8 (smH.trans s8) ?_
            have none : (allDays p.z n).find? (fun d => decide (d ∉ ds)) = none := List.find?_eq_none.mpr fun d hd => by
              rw [decide_eq_true_iff]
              exact fun z => z (all8 d hd)
            rw [none]
            show Dat H8 NestedKey.none V.non
            unfold Dat
            rfl
end
end Fd

/-! What the two searches find, in plain Lean. -/
namespace Fd
open PySem
open Enc (enc)
/-- a false day that the web does not tell from a true one -/
def cand (p : Pts) (n : Nat) (web : List (List Nat)) (d : Day) : Bool := !(isT p d) && web.all fun lot => (tdays p n).any fun t => decide (boardOf t = boardOf d) && decide (notesOf t.1 lot = notesOf d.1 lot)
def due (p : Pts) (n : Nat) (web : List (List Nat)) : Option Day := (allDays p.z n).find? (cand p n web)
/-! ### the order -/
theorem dltAll_same (as bs : List D) : ∀ xs : List D, dltAll (xs ++ as) (xs ++ bs) = dltAll as bs
  | [] => rfl
  | x :: xs => by
    rw [List.cons_append, List.cons_append]
    simp only [dltAll, if_true]
    exact dltAll_same as bs xs
theorem dltAll_lt (as bs : List D) : ∀ xs ys : List D, xs.length = ys.length → dltAll xs ys = true → dltAll (xs ++ as) (ys ++ bs) = true
  | [], [], _, h => by simp [dltAll] at h
  | [], _ :: _, l, _ => by simp at l
  | _ :: _, [], l, _ => by simp at l
  | x :: xs, y :: ys, l, h => by
    rw [List.cons_append, List.cons_append]
    simp only [dltAll] at h ⊢
    by_cases e : x = y
    · rw [if_pos e] at h ⊢
      exact dltAll_lt as bs xs ys (by simpa using l) h
    · rw [if_neg e] at h ⊢
      exact h
abbrev Lt {α : Type} [Enc α] (x y : α) : Prop := dlt (enc x) (enc y) = true
theorem lt_irr {α : Type} [Enc α] (x : α) : ¬ Lt x x := fun h => by
  unfold Lt at h
  rw [dlt_irr] at h
  cases h
theorem stp_lt {x y : Stp} (h : x.s < y.s ∨ (x.s = y.s ∧ (x.a < y.a ∨ (x.a = y.a ∧ x.m < y.m)))) : Lt x y := by
  show dlt (.tup [.num x.s, .num x.a, .num x.m]) (.tup [.num y.s, .num y.a, .num y.m]) = true
  simp only [dlt, dltAll, NestedKey.num.injEq, Int.ofNat_inj]
  rcases h with h | ⟨h1, h | ⟨h2, h3⟩⟩
  · rw [if_neg (by omega)]
    exact decide_eq_true (by omega)
  · rw [if_pos h1, if_neg (by omega)]
    exact decide_eq_true (by omega)
  · rw [if_pos h1, if_pos h2, if_neg (by omega)]
    exact decide_eq_true (by omega)
theorem allSteps_up (z : Sz) : (allSteps z).Pairwise Lt := by
  unfold allSteps
  rw [List.pairwise_flatMap]
  refine ⟨fun s _ => ?_, ?_⟩
  · rw [List.pairwise_flatMap]
    refine ⟨fun a _ => ?_, ?_⟩
    · rw [List.pairwise_map]
      refine List.pairwise_lt_range.imp ?_
      intro m m' h
      exact stp_lt (.inr ⟨rfl, .inr ⟨rfl, h⟩⟩)
    · exact List.pairwise_lt_range.imp fun h x hx y hy => by
        obtain ⟨_, _, rfl⟩ := List.mem_map.mp hx
        obtain ⟨_, _, rfl⟩ := List.mem_map.mp hy
        exact stp_lt (.inr ⟨rfl, .inl h⟩)
  · exact List.pairwise_lt_range.imp fun h x hx y hy => by
      obtain ⟨_, _, hx⟩ := List.mem_flatMap.mp hx
      obtain ⟨_, _, hy⟩ := List.mem_flatMap.mp hy
      obtain ⟨_, _, rfl⟩ := List.mem_map.mp hx
      obtain ⟨_, _, rfl⟩ := List.mem_map.mp hy
      exact stp_lt (.inl h)
theorem row_snoc_lt {ss : List Stp} {x y : Stp} (h : Lt x y) : Lt (ss ++ [x]) (ss ++ [y]) := by
  show dlt (.tup ((ss ++ [x]).map enc)) (.tup ((ss ++ [y]).map enc)) = true
  simp only [dlt, List.map_append]
  rw [dltAll_same]
  show dltAll [enc x] [enc y] = true
  simp only [dltAll]
  rw [if_neg fun e => lt_irr y (by rw [Enc.inj x y e] at h; exact h)]
  exact h
theorem row_lt {ss rr : List Stp} {x y : Stp} (l : ss.length = rr.length) (h : Lt ss rr) : Lt (ss ++ [x]) (rr ++ [y]) := by
  have h' : dltAll (ss.map enc) (rr.map enc) = true := by
    have : dlt (.tup (ss.map enc)) (.tup (rr.map enc)) = true := h
    simpa only [dlt] using this
  show dlt (.tup ((ss ++ [x]).map enc)) (.tup ((rr ++ [y]).map enc)) = true
  simp only [dlt, List.map_append]
  exact dltAll_lt _ _ _ _ (by simpa using l) h'
theorem rowsN_up (z : Sz) : ∀ n, (rowsN z n).Pairwise Lt
  | 0 => List.pairwise_singleton _ _
  | n + 1 => by
    rw [rowsN, List.pairwise_flatMap]
    refine ⟨fun ss _ => ?_, ?_⟩
    · rw [List.pairwise_map]
      exact (allSteps_up z).imp fun h => row_snoc_lt h
    · refine List.Pairwise.imp_of_mem ?_ (rowsN_up z n)
      intro ss rr hs hr h x hx y hy
      obtain ⟨_, _, rfl⟩ := List.mem_map.mp hx
      obtain ⟨_, _, rfl⟩ := List.mem_map.mp hy
      exact row_lt ((rowsN_mem.mp hs).1.trans (rowsN_mem.mp hr).1.symm) h
theorem allDays_up (z : Sz) (n : Nat) : (allDays z n).Pairwise Lt := by
  unfold allDays
  rw [List.pairwise_flatMap]
  refine ⟨fun ss _ => ?_, ?_⟩
  · rw [List.pairwise_map]
    exact List.pairwise_lt_range.imp fun {a b} h => by
      show dlt (.tup [enc ss, .num a]) (.tup [enc ss, .num b]) = true
      simp only [dlt, dltAll, if_true]
      rw [if_neg (by simp; omega)]
      exact decide_eq_true (by omega)
  · exact (rowsN_up z n).imp fun {ss rr} h x hx y hy => by
      obtain ⟨a, _, rfl⟩ := List.mem_map.mp hx
      obtain ⟨b, _, rfl⟩ := List.mem_map.mp hy
      show dlt (.tup [enc ss, .num a]) (.tup [enc rr, .num b]) = true
      simp only [dlt, dltAll]
      rw [if_neg fun e => lt_irr rr (by rw [Enc.inj ss rr e] at h; exact h)]
      exact h
/-- the first of a rising list is its least -/
theorem find_least {α : Type} [Enc α] {xs : List α} (up : xs.Pairwise Lt) {f : α → Bool} {d : α} (hd : d ∈ xs) (hf : f d = true) (least : ∀ e ∈ xs, f e = true → ¬ Lt e d) : xs.find? f = some d := by
  obtain ⟨i, hi⟩ := List.getElem?_of_mem hd
  have sp := split_at hi
  rw [sp]
  refine find_pre (fun a ha => ?_) hf
  cases e : f a with
  | false => rfl
  | true =>
    refine (least a (List.mem_of_mem_take ha) e ?_).elim
    rw [sp, List.pairwise_append] at up
    exact up.2.2 a ha d List.mem_cons_self
theorem due_none {p : Pts} {n : Nat} {web : List (List Nat)} (h : ∀ d ∈ allDays p.z n, cand p n web d = false) : due p n web = none := List.find?_eq_none.mpr fun d hd => by
  rw [h d hd]
  exact Bool.false_ne_true
theorem due_mem {p : Pts} {n : Nat} {web : List (List Nat)} {d : Day} (h : due p n web = some d) : d ∈ allDays p.z n ∧ cand p n web d = true := ⟨List.mem_of_find?_eq_some h, List.find?_some h⟩
theorem due_least {p : Pts} {n : Nat} {web : List (List Nat)} {d e : Day} (h : due p n web = some d) (he : e ∈ allDays p.z n) (hc : cand p n web e = true) : ¬ Lt e d := by
  intro lt
  have up := allDays_up p.z n
  unfold due at h
  obtain ⟨hd, A, B, hx, hA⟩ := List.find?_eq_some_iff_append.mp h
  rw [hx] at he up
  rcases List.mem_append.mp he with h1 | h1
  · have := hA e h1
    rw [hc] at this
    cases this
  · rw [List.pairwise_append] at up
    rcases List.mem_cons.mp h1 with h2 | h2
    · subst h2
      exact lt_irr e lt
    · have h3 := (List.pairwise_cons.mp up.2.1).1 e h2
      have h4 : Lt e e := dlt_trans _ _ _ lt h3
      exact lt_irr e h4
/-! ### the search by boards -/
theorem stpAt_take {x : List Stp} {q i : Nat} (h : q ≤ i) : stpAt (x.take (i + 1)) q = stpAt x q := by
  unfold stpAt
  rw [List.getD_eq_getElem?_getD, List.getD_eq_getElem?_getD, List.getElem?_take_of_lt (by omega)]
theorem okStep_iff {web : List (List Nat)} {rows : List (List Stp)} {x : List Stp} {i : Nat} : okStep web rows (x.take (i + 1)) i = true ↔ ∀ lot ∈ web, i ∈ lot → ∃ r ∈ rows, ∀ q ∈ lot, q ≤ i → stpAt r q = stpAt x q := by
  unfold okStep waysAt
  rw [List.all_eq_true]
  have key : ∀ lot : List Nat, (partOf (x.take (i + 1)) (lot.filter fun q => decide (q ≤ i)) ∈ rows.map fun r => partOf r (lot.filter fun q => decide (q ≤ i))) ↔ ∃ r ∈ rows, ∀ q ∈ lot, q ≤ i → stpAt r q = stpAt x q := by
    intro lot
    rw [List.mem_map]
    refine exists_congr fun r => and_congr_right fun _ => ?_
    unfold partOf
    rw [List.map_inj_left]
    constructor
    · intro h q hq hqi
      rw [h q (List.mem_filter.mpr ⟨hq, decide_eq_true hqi⟩), stpAt_take hqi]
    · intro h q hq
      obtain ⟨h1, h2⟩ := List.mem_filter.mp hq
      have h3 := of_decide_eq_true h2
      rw [h q h1 h3, stpAt_take h3]
  constructor
  · intro h lot hl hi
    exact (key lot).mp (of_decide_eq_true (h _ (List.mem_map.mpr ⟨lot, List.mem_filter.mpr ⟨hl, decide_eq_true hi⟩, rfl⟩)))
  · intro h y hy
    obtain ⟨lot, h1, rfl⟩ := List.mem_map.mp hy
    obtain ⟨h2, h3⟩ := List.mem_filter.mp h1
    exact decide_eq_true ((key lot).mpr (h lot h2 (of_decide_eq_true h3)))
theorem likeRows_mem {z : Sz} {web : List (List Nat)} {rows : List (List Stp)} {marks : List Nat} {n : Nat} (hn : marks.length = n) (wok : WebOk n web) {x : List Stp} :
    x ∈ likeRows z web rows marks ↔ x ∈ rowsN z n ∧ x.map (·.m) = marks ∧ ∀ lot ∈ web, lot ≠ [] → ∃ r ∈ rows, ∀ q ∈ lot, stpAt r q = stpAt x q := by
  unfold likeRows
  rw [fullF_mem, hn]
  constructor
  · rintro ⟨t, t1, e, t2⟩
    rw [List.nil_append] at e
    subst e
    have h1 : x.map (·.m) = marks := by
      refine List.ext_getElem (by rw [List.length_map, t1, hn]) fun i h1 h2 => ?_
      rw [List.getElem_map, (t2 i (by simpa using h1)).2.1]
      rw [List.length_nil, Nat.zero_add, List.getD_eq_getElem?_getD, List.getElem?_eq_getElem h2]
      rfl
    refine ⟨rowsN_mem.mpr ⟨t1, fun st hst => ?_⟩, h1, fun lot hl hne => ?_⟩
    · obtain ⟨i, hi, rfl⟩ := List.getElem_of_mem hst
      exact (t2 i hi).1
    · have hlast := List.getLast_mem hne
      have lt := (wok.1 lot hl).2.1 _ hlast
      have h3 := (t2 (lot.getLast hne) (by omega)).2.2
      rw [List.nil_append, List.length_nil, Nat.zero_add] at h3
      obtain ⟨r, r1, r2⟩ := okStep_iff.mp h3 lot hl hlast
      refine ⟨r, r1, fun q hq => r2 q hq ?_⟩
      have up := (wok.1 lot hl).1
      rw [← List.dropLast_concat_getLast hne] at hq up
      rcases List.mem_append.mp hq with h | h
      · rw [List.pairwise_append] at up
        have := up.2.2 q h _ List.mem_cons_self
        omega
      · rw [List.mem_singleton] at h
        omega
  · rintro ⟨h1, h2, h3⟩
    obtain ⟨h4, h5⟩ := rowsN_mem.mp h1
    refine ⟨x, h4, rfl, fun i hi => ⟨h5 _ (List.getElem_mem hi), ?_, ?_⟩⟩
    · rw [List.length_nil, Nat.zero_add, ← h2, List.getD_eq_getElem?_getD, List.getElem?_map, List.getElem?_eq_getElem hi]
      rfl
    · rw [List.nil_append, List.length_nil, Nat.zero_add, okStep_iff]
      intro lot hl hil
      obtain ⟨r, r1, r2⟩ := h3 lot hl (List.ne_nil_of_mem hil)
      exact ⟨r, r1, fun q hq _ => r2 q hq⟩
theorem board_len {p : Pts} {n : Nat} {d : Day} (h : d ∈ allDays p.z n) : (boardOf d).1.length = n := by
  show (d.1.map (·.m)).length = n
  rw [List.length_map]
  exact (rowsN_mem.mp (allDays_mem.mp h).1).1
/-- on one board: like steps are like notes -/
theorem like_notes {n : Nat} {t d : Day} {lot : List Nat} (ht : t.1.length = n) (hd : d.1.length = n) (hb : boardOf t = boardOf d) (hl : ∀ q ∈ lot, q < n) : (∀ q ∈ lot, stpAt t.1 q = stpAt d.1 q) ↔ notesOf t.1 lot = notesOf d.1 lot := by
  unfold notesOf
  rw [List.map_inj_left]
  have hm : ∀ q, q < n → (stpAt t.1 q).m = (stpAt d.1 q).m := by
    intro q hq
    have e : t.1.map (·.m) = d.1.map (·.m) := congrArg Prod.fst hb
    have e2 : (t.1.map (·.m))[q]? = (d.1.map (·.m))[q]? := by rw [e]
    rw [List.getElem?_map, List.getElem?_map, stpAt_get (by omega), stpAt_get (by omega)] at e2
    exact Option.some.inj e2
  constructor
  · intro h q hq
    unfold noteAt
    rw [h q hq]
  · intro h q hq
    have h1 := h q hq
    have h2 := hm q (hl q hq)
    unfold noteAt at h1
    obtain ⟨h3, h4⟩ := Prod.mk.inj h1
    revert h2 h3 h4
    cases stpAt t.1 q
    cases stpAt d.1 q
    intro h2 h3 h4
    simp only at h2 h3 h4
    rw [h2, h3, h4]
def foundBy (p : Pts) (n : Nat) (web : List (List Nat)) (bs : List Brd) : List Day := bs.flatMap fun b => falseOn p.z web b (rowsFor b (tdays p n))
theorem found_iff {p : Pts} {n : Nat} {web : List (List Nat)} (wok : WebOk n web) (wne : web ≠ []) {bs : List Brd} (hbs : ∀ b, b ∈ bs ↔ ∃ x ∈ tdays p n, boardOf x = b) {d : Day} : d ∈ foundBy p n web bs ↔ d ∈ allDays p.z n ∧ cand p n web d = true := by
  have tlen : ∀ {t : Day}, t ∈ tdays p n → t.1.length = n := fun h => (rowsN_mem.mp (allDays_mem.mp (tdays_mem.mp h).1).1).1
  unfold foundBy
  rw [List.mem_flatMap]
  constructor
  · rintro ⟨b, hb, hd⟩
    obtain ⟨x, hx, rfl⟩ := (hbs b).mp hb
    unfold falseOn at hd
    obtain ⟨ss, h1, h2⟩ := List.mem_filterMap.mp hd
    split at h2
    · cases h2
    · rename_i hns
      cases h2
      obtain ⟨h3, h4, h5⟩ := (likeRows_mem (board_len (tdays_mem.mp hx).1) wok).mp h1
      have hbd : boardOf ((ss, (boardOf x).2) : Day) = boardOf x := Prod.ext h4 rfl
      have hall : ((ss, (boardOf x).2) : Day) ∈ allDays p.z n := allDays_mem.mpr ⟨h3, (allDays_mem.mp (tdays_mem.mp hx).1).2⟩
      refine ⟨hall, ?_⟩
      unfold cand
      rw [Bool.and_eq_true, Bool.not_eq_true']
      constructor
      · cases e : isT p ((ss, (boardOf x).2) : Day) with
        | false => rfl
        | true => exact (hns (rowsFor_mem.mpr ⟨_, tdays_mem.mpr ⟨hall, e⟩, hbd, rfl⟩)).elim
      · rw [List.all_eq_true]
        intro lot hl
        rw [List.any_eq_true]
        by_cases hne : lot = []
        · subst hne
          exact ⟨x, hx, by rw [Bool.and_eq_true]; exact ⟨decide_eq_true hbd.symm, decide_eq_true rfl⟩⟩
        · obtain ⟨r, r1, r2⟩ := h5 lot hl hne
          obtain ⟨t, t1, t2, t3⟩ := rowsFor_mem.mp r1
          subst t3
          refine ⟨t, t1, ?_⟩
          rw [Bool.and_eq_true]
          exact ⟨decide_eq_true (t2.trans hbd.symm), decide_eq_true ((like_notes (tlen t1) (rowsN_mem.mp h3).1 (t2.trans hbd.symm) (wok.1 lot hl).2.1).mp r2)⟩
  · rintro ⟨hall, hc⟩
    unfold cand at hc
    rw [Bool.and_eq_true, Bool.not_eq_true', List.all_eq_true] at hc
    obtain ⟨hf, hw⟩ := hc
    have each : ∀ lot ∈ web, ∃ t ∈ tdays p n, boardOf t = boardOf d ∧ notesOf t.1 lot = notesOf d.1 lot := fun lot hl => by
      obtain ⟨t, t1, t2⟩ := List.any_eq_true.mp (hw lot hl)
      rw [Bool.and_eq_true] at t2
      exact ⟨t, t1, of_decide_eq_true t2.1, of_decide_eq_true t2.2⟩
    obtain ⟨lot0, hl0⟩ := List.exists_mem_of_ne_nil web wne
    obtain ⟨t0, t01, t02, _⟩ := each lot0 hl0
    refine ⟨boardOf d, (hbs _).mpr ⟨t0, t01, t02⟩, ?_⟩
    unfold falseOn
    rw [List.mem_filterMap]
    have hd1 := (allDays_mem.mp hall).1
    refine ⟨d.1, (likeRows_mem (board_len hall) wok).mpr ⟨hd1, rfl, fun lot hl _ => ?_⟩, ?_⟩
    · obtain ⟨t, t1, t2, t3⟩ := each lot hl
      exact ⟨t.1, rowsFor_mem.mpr ⟨t, t1, t2, rfl⟩, (like_notes (tlen t1) (rowsN_mem.mp hd1).1 t2 (wok.1 lot hl).2.1).mpr t3⟩
    · rw [if_neg]
      · rfl
      · intro h
        obtain ⟨t, t1, t2, t3⟩ := rowsFor_mem.mp h
        have e : t = d := Prod.ext t3 (show t.2 = d.2 from congrArg (fun b : Brd => b.2) t2)
        rw [e] at t1
        rw [(tdays_mem.mp t1).2] at hf
        cases hf
/-! ### how many -/
def mrows (m : Nat) : Nat → List (List Nat)
  | 0 => [[]]
  | n + 1 => (mrows m n).flatMap fun ms => (List.range m).map fun x => ms ++ [x]
theorem mrows_len (m : Nat) : ∀ n, (mrows m n).length = m ^ n
  | 0 => rfl
  | n + 1 => by rw [mrows, flatMap_len (k := m) (fun x _ => by simp), mrows_len m n, Nat.pow_succ]
theorem mrows_mem {m : Nat} : ∀ {n : Nat} {ms : List Nat}, ms.length = n → (∀ x ∈ ms, x < m) → ms ∈ mrows m n
  | 0, ms, h, _ => by
    rw [List.eq_nil_of_length_eq_zero h]
    exact List.mem_singleton.mpr rfl
  | n + 1, ms, h, hx => by
    have hne : ms ≠ [] := fun e => by
      rw [e] at h
      simp at h
    rw [mrows, List.mem_flatMap]
    refine ⟨ms.dropLast, mrows_mem (by rw [List.length_dropLast, h]; rfl) (fun x h => hx x (List.dropLast_subset _ h)), List.mem_map.mpr ⟨ms.getLast hne, List.mem_range.mpr (hx _ (List.getLast_mem hne)), List.dropLast_concat_getLast hne⟩⟩
theorem boards_few {p : Pts} {n : Nat} {bs : List Brd} (nd : bs.Nodup) (hbs : ∀ b, b ∈ bs ↔ ∃ x ∈ tdays p n, boardOf x = b) : bs.length ≤ p.z.m ^ n * p.z.m := by
  have h1 : bs.length ≤ ((mrows p.z.m n).flatMap fun ms => (List.range p.z.m).map fun l => ((ms, l) : Brd)).length := by
    refine nd.length_le_of_subset fun b hb => ?_
    obtain ⟨x, hx, rfl⟩ := (hbs b).mp hb
    obtain ⟨h2, h3⟩ := allDays_mem.mp (tdays_mem.mp hx).1
    obtain ⟨h4, h5⟩ := rowsN_mem.mp h2
    rw [List.mem_flatMap]
    refine ⟨x.1.map (·.m), mrows_mem (by rw [List.length_map, h4]) fun y hy => ?_, List.mem_map.mpr ⟨x.2, List.mem_range.mpr h3, rfl⟩⟩
    obtain ⟨st, hst, rfl⟩ := List.mem_map.mp hy
    exact (allSteps_mem.mp (h5 st hst)).2.2
  rw [flatMap_len (k := p.z.m) (fun x _ => by simp), mrows_len] at h1
  exact h1
theorem falseOn_len (z : Sz) (web : List (List Nat)) (b : Brd) (rows : List (List Stp)) : (falseOn z web b rows).length ≤ (z.s * z.a) ^ b.1.length := Nat.le_trans (List.length_filterMap_le _ _) (fullF_len _ _)
theorem notes_few {p : Pts} {n : Nat} (ok : PtsOk p) (f : Fits p n) : (p.z.s * p.z.a) ^ n ≤ 400 := by
  have h1 : (p.z.s * p.z.a) ^ n ≤ (p.z.s * p.z.a * p.z.m) ^ n := Nat.pow_le_pow_left (Nat.le_mul_of_pos_right _ ok.m.1) n
  have h2 : 1 * (p.z.s * p.z.a * p.z.m) ^ n ≤ p.z.m * (p.z.s * p.z.a * p.z.m) ^ n := Nat.mul_le_mul_right _ ok.m.1
  have h3 := f.few
  omega
theorem found_few {p : Pts} {n : Nat} {web : List (List Nat)} (f : Fits p n) {bs : List Brd} (nd : bs.Nodup) (hbs : ∀ b, b ∈ bs ↔ ∃ x ∈ tdays p n, boardOf x = b) (i : Nat) : (foundBy p n web (bs.take i)).length ≤ 400 := by
  unfold foundBy
  have h1 := flat_le (f := fun b => falseOn p.z web b (rowsFor b (tdays p n))) (b := (p.z.s * p.z.a) ^ n) (xs := bs.take i) fun b hb => by
    obtain ⟨x, hx, rfl⟩ := (hbs b).mp (List.mem_of_mem_take hb)
    have := falseOn_len p.z web (boardOf x) (rowsFor (boardOf x) (tdays p n))
    rw [board_len (tdays_mem.mp hx).1] at this
    exact this
  have h2 : (bs.take i).length ≤ bs.length := by rw [List.length_take]; omega
  have h3 := boards_few nd hbs
  have h4 : (bs.take i).length * (p.z.s * p.z.a) ^ n ≤ p.z.m ^ n * p.z.m * (p.z.s * p.z.a) ^ n := Nat.mul_le_mul_right _ (by omega)
  have h5 : p.z.m ^ n * p.z.m * (p.z.s * p.z.a) ^ n = p.z.m * (p.z.s * p.z.a * p.z.m) ^ n := by
    rw [Nat.mul_pow (p.z.s * p.z.a), Nat.mul_comm (p.z.m ^ n), Nat.mul_assoc, Nat.mul_comm (p.z.m ^ n)]
  have h6 := f.few
  omega
theorem due_nil {p : Pts} {n : Nat} : (allDays p.z n).find? (fun d => decide (d ∉ tdays p n)) = due p n [] := by
  unfold due
  have key : ∀ xs : List Day, (∀ d ∈ xs, d ∈ allDays p.z n) → xs.find? (fun d => decide (d ∉ tdays p n)) = xs.find? (cand p n []) := by
    intro xs
    induction xs with
    | nil => intro _; rfl
    | cons x xs ih =>
      intro h
      have hx := h x List.mem_cons_self
      have e : decide (x ∉ tdays p n) = cand p n [] x := by
        unfold cand
        rw [List.all_nil, Bool.and_true]
        cases ht : isT p x with
        | true => exact decide_eq_false (fun z => z (tdays_mem.mpr ⟨hx, ht⟩))
        | false =>
          refine decide_eq_true fun z => ?_
          rw [(tdays_mem.mp z).2] at ht
          cases ht
      rw [List.find?_cons, List.find?_cons, e, ih fun d hd => h d (List.mem_cons_of_mem _ hd)]
  exact key _ fun d h => h
end Fd

/-! The least false day that a web does not tell. -/
namespace Fd
open PySem PySem.Spec PyProof.Rows L2
open Enc (enc)
abbrev s_least_unseen : Stmt := topS 42
theorem sc_least_unseen : FnScope ["office", "many", "web", "days", "found", "the_board", "rows"] ["office", "many", "web"] (defScope s_least_unseen) := ⟨rfl, rfl, rfl, by decide +kernel, rfl, by decide +kernel, by decide +kernel⟩
abbrev s_web_false : Stmt := topS 43
theorem sc_web_false : FnScope ["office", "many", "web"] ["office", "many", "web"] (defScope s_web_false) := ⟨rfl, rfl, rfl, by decide +kernel, rfl, by decide +kernel, by decide +kernel⟩
theorem same1_rows : ∀ ss rr : List Stp, same1All (ss.map enc) (rr.map enc) = true
  | [], _ => by simp [same1All]
  | _ :: _, [] => by simp [same1All]
  | x :: ss, y :: rr => by
    simp only [List.map_cons, same1All, Bool.and_eq_true]
    exact ⟨by show same1 (.tup [.num x.s, .num x.a, .num x.m]) (.tup [.num y.s, .num y.a, .num y.m]) = true; simp [same1, same1All], same1_rows ss rr⟩
theorem same1_days (d e : Day) : same1 (enc d) (enc e) = true := by
  show same1 (.tup [.tup (d.1.map enc), .num d.2]) (.tup [.tup (e.1.map enc), .num e.2]) = true
  simp only [same1, same1All, Bool.and_eq_true]
  exact ⟨same1_rows d.1 e.1, trivial, trivial⟩
section
variable {P : Program} {w : World} {K : PySem.W.Frag} {mg : Str → Option Value} {base : Heap}
def spWeb (P : Program) (w : World) (C : Addr) : Sp := fun vs H Q _ => ∃ (x : Addr) (vw : V) (p : Pts) (n : Nat) (web : List (List Nat)), vs = [.ref x, .int n, vw] ∧ Off P w C H x p.z p.mv p.cl ∧ PtsOk p ∧ Fits p n ∧ Is H web vw ∧ WebOk n web ∧
  ∀ v H', Same H H' → Is H' (due p n web) v → Q v H'
theorem ok_least_unseen {Ca : Addr} (B : Bi mg) (C : Cs mg) (o_days_of : Ok P w K mg base 3 "days_of" ["office", "many", "most"] (spDays P w Ca)) (o_false_without_lots : Ok P w K mg base 2 "false_without_lots" ["office", "many", "days"] (spFwl P w Ca))
    (o_rows_by_board : Ok P w K mg base 2 "rows_by_board" ["days"] (spByBoard P w)) (o_false_on_board : Ok P w K mg base 4 "false_on_board" ["office", "the_board", "web", "rows"] (spFalseOn P w Ca)) (o_check_days : Ok P w K mg base 1 "check_days" ["days"] spCheckDays)
    (d : Df K mg "least_unseen" "least_unseen" s_least_unseen ["office", "many", "web"]) : Ok P w K mg base 5 "least_unseen" ["office", "many", "web"] (spWeb P w Ca) := by
  refine d.ok sc_least_unseen (fun vs H Q E h => ?_) (fun f cdv A outer s H vs Q E hr h => ?_)
  · obtain ⟨x, vw, p, n, web, rfl, _⟩ := h
    rfl
  · obtain ⟨x, vw, p, n, web, rfl, off, ok, fit, hw, wok, q⟩ := h
    refine ⟨_, (pss_cons (pss 3 sc_least_unseen.nd (pe_fn o_days_of hr (pa_cons (pv 0) (pa_cons (pv 1) (pa_cons (pe_gi C.MOST_DAYS) pa_nil)))))
      (pss_cons (ps_if (pt_cmpR op_eq (pe_callB cr_lenD (by rfl) B.len (by decide +kernel) (pa_cons (pv 2) pa_nil)) pe_int (nomark _))
        (pss_one (ps_ret (pe_fn o_false_without_lots hr (pa_cons (pv 0) (pa_cons (pv 1) (pa_cons (pv 3) pa_nil))))))
        pss_nil)
      (pss_cons (pss 4 sc_least_unseen.nd (pe_lstD pa_nil))
      (pss_cons (ps_for PassesOwn.never rfl (pi_itemsN (pe_fn o_rows_by_board hr (pa_cons (pv 3) pa_nil))) (pg_tup rfl (pgs_cons (pgn 5 sc_least_unseen.nd) (pgs_cons (pgn 6 sc_least_unseen.nd) pgs_nil)))
        (pss_cons (ps_expr (pe_bm PySem.F.plainAttrs_list PySem.F.slot_list_extend PySem.F.type_list_extend mt_extD (pv 4) (pa_cons (pe_fn o_false_on_board hr (pa_cons (pv 0) (pa_cons (pv 5) (pa_cons (pv 2) (pa_cons (pv 6) pa_nil))))) pa_nil)))
        (pss_one (ps_expr (pe_fn o_check_days hr (pa_cons (pv 4) pa_nil))))))
      (pss_one (ps_ret (pe_ifExp (pt_cmpR op_gt (pe_callB cr_lenD (by rfl) B.len (by decide +kernel) (pa_cons (pv 4) pa_nil)) pe_int (nomark _)) (pe_callB (cr_minN rfl hr.units) (by rfl) B.min (by decide +kernel) (pa_cons (pv 4) pa_nil)) pe_non))))))), ?_⟩
    have n6 := fit.hi
    have tl := tdays_len fit
    refine ⟨_, rfl, _, rfl, x, p, n, rfl, off, ok, fit, fun l H1 nl s1 ls => ?_⟩
    refine ⟨_, rfl, _, _, rfl, .inl (hw.same s1), rfl, _, rfl, ?_⟩
    by_cases wne : web = []
    · subst wne
      refine iteT' (by decide) ⟨_, rfl, _, rfl, _, rfl, x, l, p, n, tdays p n, rfl, off.same s1, ok, fit, ls, by omega, fun v H2 s2 hv => q v H2 (s1.trans s2) ?_⟩
      rw [due_nil] at hv
      exact hv
    · refine iteF' ?_ ?_
      · rw [List.length_map]
        have := List.length_pos_iff.mpr wne
        exact decide_eq_false fun e => by injection e with e; omega
      refine ⟨[], dats_nil, Nat.zero_le _, fun fl H2 nfl a2 l2 => ?_⟩
      have s2 : Same H1 H2 := a2.same nfl
      have nf0 : H fl = none := s1.free nfl
      refine ⟨_, rfl, l, tdays p n, rfl, ls.same s2, by omega, fun y hy => ?_, fun dd H3 nd s3 br => ?_⟩
      · rw [(rowsN_mem.mp (allDays_mem.mp (tdays_mem.mp hy).1).1).1]
        omega
      obtain ⟨kvs, bs, Dk, kl, nb, hbs, each⟩ := br
      refine ⟨dd, kvs, rfl, Dk, fun o xs kn => ?_⟩
      have s13 : Same H1 H3 := s2.trans s3
      have nd0 : H dd = none := s1.free (s2.free nd)
      have ntd : ∀ xs, H3 dd ≠ some (.tup xs) := Dk.ntup
      have l23 : Lsd H3 fl [] := l2.same s3
      have nfd : fl ≠ dd := fun z => l2.some (z ▸ nd)
      generalize hHf : upd H3 dd (.frz o (DNo P w dd xs)) = Hf at *
      have sdf : Sd dd H3 Hf := by
        rw [← hHf]
        exact sd_upd
      have tf : Tx H3 Hf := sdf.tx ntd
      have hdd : Hf dd = some (.frz o (DNo P w dd xs)) := by
        rw [← hHf]
        exact upd_same
      have sHf : Same H Hf := fun b ob e => sdf b ob (s13 b ob (s1 b ob e)) fun z => by
        rw [z, nd0] at e
        cases e
      have lf : Lsd Hf fl [] := lsd_sd l23 nfd sdf ntd
      have ntl : ∀ xs, Hf fl ≠ some (.tup xs) := lf.ntup
      have few := notes_few ok fit
      refine for_it (walk_N kn) (fun i σ H' => (∃ u5 u6 : Option V, σ = [some (.ref x), some (.int n), some vw, some (.ref l), some (.ref fl), u5, u6]) ∧ Sd fl Hf H' ∧ Ls H' fl (foundBy p n web (bs.take i)))
        ⟨⟨none, none, rfl⟩, by show Sd fl Hf (upd H3 dd (.frz o (DNo P w dd xs))); rw [hHf]; exact Sd.refl _, by show Lsd (upd H3 dd (.frz o (DNo P w dd xs))) fl []; rw [hHf]; exact lf⟩ (fun i σ H' _ p => p.2.1 _ _ hdd nfd.symm) ?_ ?_
      · rintro i v σ H4 H4' hi ⟨⟨u5, u6, rfl⟩, sd, lL⟩ ⟨Tt, k, b', vr, hk, hkd, rfl, nT, rfl⟩
        have hib : i < bs.length := by omega
        have hb : bs[i]? = some bs[i] := List.getElem?_eq_getElem hib
        generalize bs[i] = b at hb
        obtain ⟨lr, lr1, lr2⟩ := each i b hb
        rw [hk] at lr1
        cases lr1
        obtain ⟨x0, hx0, hxb⟩ := (hbs b).mp (List.mem_of_getElem? hb)
        have hx0a := (tdays_mem.mp hx0).1
        have blen : b.1.length = n := by
          rw [← hxb]
          exact board_len hx0a
        have s45 : Same H4 (upd H4 Tt (.tup [.ref b', .ref lr])) := same_new nT
        refine ⟨Tt, _, rfl, SqT.of upd_same, rfl, _, _, rfl, _, _, rfl, rfl, ?_⟩
        generalize hH5 : upd H4 Tt (.tup [.ref b', .ref lr]) = H5 at *
        have sd5 : Sd fl Hf H5 := sd.trans (Same.sd s45)
        have t5 : Tx H3 H5 := tf.trans (sd5.tx ntl)
        have sH5 : Same H H5 := sd_same sHf nf0 sd5
        have nlrd : lr ≠ dd := fun z => by
          obtain ⟨vs, e, _⟩ := lr2
          obtain ⟨ys, e2, _⟩ := Dk
          rw [z, e2] at e
          cases e
        have rne : rowsFor b (tdays p n) ≠ [] := List.ne_nil_of_mem (rowsFor_mem.mpr ⟨x0, hx0, hxb, rfl⟩)
        have nlrf : lr ≠ fl := fun z => by
          obtain ⟨vs, e, d1⟩ := lr2
          obtain ⟨ws, e2, d2⟩ := l23
          rw [z, e2] at e
          cases e
          rw [dats_of_nil d2] at d1
          have := dats_len d1
          rw [List.length_map] at this
          exact rne (List.eq_nil_of_length_eq_zero this.symm)
        have lr5 : Ls H5 lr (rowsFor b (tdays p n)) := lsd_sd (lsd_sd lr2 nlrd sdf ntd) nlrf sd5 ntl
        have lL5 := lL.same s45
        obtain ⟨fv, hfv⟩ := lsd_nd lL5
        have rz : (rowsFor b (tdays p n)).length ≤ 1000 := by
          unfold rowsFor
          rw [List.length_map]
          have := List.length_filter_le (fun d => decide (boardOf d = b)) (tdays p n)
          omega
        refine ⟨_, rfl, .inl ⟨rfl, _, SqL.of hfv⟩, _, rfl, _, rfl, _, rfl, _, rfl, x, _, vw, lr, p, b, web, rowsFor b (tdays p n), rfl, off.same sH5, ok, Dat.mono t5 _ _ hkd, by omega, hw.same sH5, by rw [blen]; exact wok, lr5, rz, fun r hr => ?_, by rw [blen]; exact few, fun l' H6 nl' s6 l6 => ?_⟩
        · obtain ⟨t, t1, _, t3⟩ := rowsFor_mem.mp hr
          rw [blen, ← t3]
          exact (rowsN_mem.mp (allDays_mem.mp (tdays_mem.mp t1).1).1).1
        have cnt := found_few (web := web) fit nb hbs (i + 1)
        have fs : foundBy p n web (bs.take (i + 1)) = foundBy p n web (bs.take i) ++ falseOn p.z web b (rowsFor b (tdays p n)) := flat_take (fun b => falseOn p.z web b (rowsFor b (tdays p n))) hb
        rw [fs] at cnt
        refine ⟨fl, l', _, _, rfl, rfl, lL5.same s6, l6, ?_, fun H7 a7 l7 => ?_⟩
        · rw [List.length_map, List.length_map, sizeLine_eq]
          rw [List.length_append] at cnt
          omega
        · have l7' := lsd_app l7
          refine ⟨_, rfl, fl, _, rfl, l7', by omega, ⟨_, _, rfl⟩, fun b o eb nb => a7.sd b o (s6 _ _ (sd5 b o eb nb)) nb, ?_⟩
          rw [fs]
          exact l7'
      · rintro σ H4 ⟨⟨u5, u6, rfl⟩, sd, lL⟩
        rw [kl, List.take_length] at lL
        have sH4 : Same H H4 := sd_same sHf nf0 sd
        have fi := fun d => found_iff (p := p) wok wne hbs (d := d)
        refine ⟨_, rfl, _, _, rfl, .inr ⟨fl, rfl, lL⟩, _, _, rfl, rfl, _, rfl, ?_⟩
        by_cases hne : foundBy p n web bs = []
        · refine iteF' ?_ ?_
          · rw [hne]
            decide
          · have e : due p n web = none := due_none fun d hd => by
              cases hc : cand p n web d with
              | false => rfl
              | true =>
                have := (fi d).mpr ⟨hd, hc⟩
                rw [hne] at this
                cases this
            refine q .non H4 sH4 ?_
            rw [e]
            show Dat H4 NestedKey.none V.non
            unfold Dat
            rfl
        · refine iteT' ?_ ?_
          · rw [List.length_map]
            have := List.length_pos_iff.mpr hne
            exact decide_eq_true (by omega)
          · obtain ⟨fv, hfv, hfd⟩ := id lL
            refine ⟨_, rfl, fl, fv, _, rfl, SqL.of hfv, hfd, ?_, ?_, ?_, fun v d hd hin least => ?_⟩
            · intro e
              exact hne (List.map_eq_nil_iff.mp e)
            · intro d hd e he
              obtain ⟨d', _, rfl⟩ := List.mem_map.mp hd
              obtain ⟨e', _, rfl⟩ := List.mem_map.mp he
              exact same1_days d' e'
            · intro d hd
              obtain ⟨d', _, rfl⟩ := List.mem_map.mp hd
              exact (okd d').2
            · obtain ⟨d', hd', rfl⟩ := List.mem_map.mp hin
              obtain ⟨c1, c2⟩ := (fi d').mp hd'
              have e : due p n web = some d' := find_least (allDays_up p.z n) c1 c2 fun e he hc lt => by
                have h1 := least (enc e) (List.mem_map_of_mem ((fi e).mpr ⟨he, hc⟩))
                have lt' : dlt (enc e) (enc d') = true := lt
                rw [h1] at lt'
                cases lt'
              refine q v H4 sH4 ?_
              rw [e]
              exact hd
theorem ok_web_false {Ca : Addr} (o_check_people : Ok P w K mg base 4 "check_people" ["many"] spCheckPeople) (o_are_lots : Ok P w K mg base 4 "are_lots" ["many", "thing"] spAreLots) (o_least_unseen : Ok P w K mg base 5 "least_unseen" ["office", "many", "web"] (spWeb P w Ca))
    (d : Df K mg "web_false" "web_false" s_web_false ["office", "many", "web"]) : Ok P w K mg base 6 "web_false" ["office", "many", "web"] (spWeb P w Ca) := by
  refine d.ok sc_web_false (fun vs H Q E h => ?_) (fun f cdv A outer s H vs Q E hr h => ?_)
  · obtain ⟨x, vw, p, n, web, rfl, _⟩ := h
    rfl
  · obtain ⟨x, vw, p, n, web, rfl, off, ok, fit, hw, wok, q⟩ := h
    refine ⟨_, (pss_cons (ps_expr (pe_fn o_check_people hr (pa_cons (pv 1) pa_nil)))
      (pss_cons (ps_if (pt_not (pt_val (pe_fn o_are_lots hr (pa_cons (pv 1) (pa_cons (pv 2) pa_nil)))))
        (pss_one ps_never)
        pss_nil)
      (pss_one (ps_ret (pe_fn o_least_unseen hr (pa_cons (pv 0) (pa_cons (pv 1) (pa_cons (pv 2) pa_nil)))))))), ?_⟩
    refine ⟨_, rfl, n, rfl, fit.lo, fit.hi, ?_⟩
    refine ⟨_, rfl, _, rfl, vw, web, n, rfl, hw, wok, fun H1 s1 => ⟨_, rfl, iteF ?_⟩⟩
    exact ⟨_, rfl, _, rfl, _, rfl, x, vw, p, n, web, rfl, off.same s1, ok, fit, hw.same s1, wok, fun v H2 s2 hv => q v H2 (s1.trans s2) hv⟩
end
end Fd

/-! The law's own search. -/
namespace Fd
open PySem PySem.Spec PyProof.Rows L2
open Enc (enc)
abbrev s__law_tables : Stmt := topS 64
theorem sc__law_tables : FnScope ["_law_days", "_law_lots", "_law_found", "_law_lot_here", "_law_table", "_law_day", "_law_parts_here_here"] ["_law_days", "_law_lots"] (defScope s__law_tables) := ⟨rfl, rfl, rfl, by decide +kernel, rfl, by decide +kernel, by decide +kernel⟩
abbrev s__law_unseen : Stmt := topS 65
theorem sc__law_unseen : FnScope ["_law_day", "_law_tables_here", "_law_lots", "_law_the_board", "_law_lot_here"] ["_law_day", "_law_tables_here", "_law_lots"] (defScope s__law_unseen) := ⟨rfl, rfl, rfl, by decide +kernel, rfl, by decide +kernel, by decide +kernel⟩
abbrev s__law_false_of : Stmt := topS 70
theorem sc__law_false_of : FnScope ["_law_parts_here", "_law_many", "_law_lots", "_law_days", "_law_tables_here", "_law_known", "_law_day"] ["_law_parts_here", "_law_many", "_law_lots"] (defScope s__law_false_of) := ⟨rfl, rfl, rfl, by decide +kernel, rfl, by decide +kernel, by decide +kernel⟩
theorem hid_mono {H H' : Hp} {p : Addr} (s : Same H H') : Same (hid H p) (hid H' p) := fun b o e => by
  unfold hid at e ⊢
  by_cases h : b = p
  · rw [if_pos h] at e
    cases e
  · rw [if_neg h] at e ⊢
    exact s b o e
theorem hid_at1 {H H' : Hp} {p : Addr} (a : At1 p H H') : hid H' p = hid H p := funext fun b => by
  unfold hid
  by_cases h : b = p
  · rw [if_pos h, if_pos h]
  · rw [if_neg h, if_neg h, a b h]
def partsFor (b : Brd) (ds : List Day) (lot : List Nat) : List (List (Nat × Nat)) := (ds.filter fun d => decide (boardOf d = b)).map fun d => notesOf d.1 lot
theorem partsFor_snoc (b : Brd) (ds : List Day) (d : Day) (lot : List Nat) : partsFor b (ds ++ [d]) lot = partsFor b ds lot ++ (if boardOf d = b then [notesOf d.1 lot] else []) := by
  unfold partsFor
  rw [List.filter_append, List.map_append]
  by_cases h : boardOf d = b
  · simp [h]
  · simp [h]
theorem partsFor_len (b : Brd) (ds : List Day) (lot : List Nat) : (partsFor b ds lot).length ≤ ds.length := by
  unfold partsFor
  rw [List.length_map]
  exact List.length_filter_le _ _
theorem partsFor_any (b : Brd) (ds : List Day) (lot : List Nat) (ns : List (Nat × Nat)) : decide (ns ∈ partsFor b ds lot) = ds.any fun t => decide (boardOf t = b) && decide (notesOf t.1 lot = ns) := by
  rw [Bool.eq_iff_iff, decide_eq_true_iff, List.any_eq_true]
  unfold partsFor
  rw [List.mem_map]
  constructor
  · rintro ⟨t, h1, h2⟩
    obtain ⟨h3, h4⟩ := List.mem_filter.mp h1
    exact ⟨t, h3, by rw [Bool.and_eq_true]; exact ⟨h4, decide_eq_true h2⟩⟩
  · rintro ⟨t, h1, h2⟩
    rw [Bool.and_eq_true] at h2
    exact ⟨t, List.mem_filter.mpr ⟨h1, h2.1⟩, of_decide_eq_true h2.2⟩
/-- a lot's table -/
def TableD (P : Program) (w : World) (H : Hp) (td : Addr) (lot : List Nat) (ds : List Day) : Prop := ∃ kvs, DN P w H td kvs ∧ ∀ b : Brd, (valV kvs (enc b) = none ∧ ∀ x ∈ ds, boardOf x ≠ b) ∨ ∃ pd, valV kvs (enc b) = some (V.ref pd) ∧ SetN P w H pd (partsFor b ds lot)
theorem TableD.same {P : Program} {w : World} {H H' : Hp} {td : Addr} {lot : List Nat} {ds : List Day} (h : TableD P w H td lot ds) (s : Same H H') : TableD P w H' td lot ds := by
  obtain ⟨kvs, a, b⟩ := h
  refine ⟨kvs, a.same s, fun x => ?_⟩
  rcases b x with h | ⟨pd, p1, p2⟩
  · exact .inl h
  · exact .inr ⟨pd, p1, p2.same s⟩
/-- .. while it is filled -/
def TableF (P : Program) (w : World) (H1 H : Hp) (td : Addr) (lot : List Nat) (ds : List Day) : Prop := ∃ kvs, DN P w H td kvs ∧ kvs.length ≤ ds.length ∧ (∀ b : Brd, (valV kvs (enc b) = none ∧ ∀ x ∈ ds, boardOf x ≠ b) ∨ ∃ pd, valV kvs (enc b) = some (V.ref pd) ∧ H1 pd = none ∧ pd ≠ td ∧ SetN P w H pd (partsFor b ds lot)) ∧
  ∀ (b b' : Brd) (l : Addr), valV kvs (enc b) = some (.ref l) → valV kvs (enc b') = some (.ref l) → b = b'
theorem SetN.keep {α : Type} [Enc α] [DecidableEq α] {P : Program} {w : World} {H H' : Hp} {d : Addr} {xs : List α} (h : SetN P w H d xs) (e : H' d = H d) (t : Tx H H') : SetN P w H' d xs := by
  obtain ⟨kvs, a, b⟩ := h
  exact ⟨kvs, a.keep e t, b⟩
theorem TableF.done {P : Program} {w : World} {H1 H : Hp} {td fd : Addr} {lot : List Nat} {ds : List Day} (h : TableF P w H1 H td lot ds) (ne : td ≠ fd) (hf : H1 fd ≠ none) (nt : ∀ xs, H fd ≠ some (.tup xs)) : TableD P w (hid H fd) td lot ds := by
  obtain ⟨kvs, a, _, b, _⟩ := h
  refine ⟨kvs, a.keep (hid_ne ne) (hid_tx nt), fun x => ?_⟩
  rcases b x with h | ⟨pd, p1, p2, p3, p4⟩
  · exact .inl h
  · exact .inr ⟨pd, p1, p4.keep (hid_ne fun z => hf (z ▸ p2)) (hid_tx nt)⟩
/-- the tables, by lot -/
def TabsD (P : Program) (w : World) (H : Hp) (fd : Addr) (web : List (List Nat)) (ds : List Day) : Prop := ∃ kvs, DN P w H fd kvs ∧ ∀ lot ∈ web, ∃ td, valV kvs (enc lot) = some (V.ref td) ∧ TableD P w H td lot ds
theorem TabsD.same {P : Program} {w : World} {H H' : Hp} {fd : Addr} {web : List (List Nat)} {ds : List Day} (h : TabsD P w H fd web ds) (s : Same H H') : TabsD P w H' fd web ds := by
  obtain ⟨kvs, a, b⟩ := h
  refine ⟨kvs, a.same s, fun lot hl => ?_⟩
  obtain ⟨td, t1, t2⟩ := b lot hl
  exact ⟨td, t1, t2.same s⟩
section
variable {P : Program} {w : World} {K : PySem.W.Frag} {mg : Str → Option Value} {base : Heap}
def spTables (P : Program) (w : World) : Sp := fun vs H Q _ => ∃ (l : Addr) (vw : V) (ds : List Day) (web : List (List Nat)) (n : Nat), vs = [.ref l, vw] ∧ Ls H l ds ∧ Is H web vw ∧ WebOk n web ∧ ds.length ≤ 1000 ∧ (∀ x ∈ ds, x.1.length = n) ∧ n ≤ 1000 ∧
  ∀ fd H', H fd = none → Same H H' → TabsD P w H' fd web ds → Q (.ref fd) H'
theorem ok_law_tables (o__law_board : Ok P w K mg base 1 "_law_board" ["_law_day"] spBoard) (o__law_part : Ok P w K mg base 1 "_law_part" ["_law_day", "_law_lot_here"] spLawPart) (d : Df K mg "_law_tables" "_law_tables" s__law_tables ["_law_days", "_law_lots"]) :
    Ok P w K mg base 2 "_law_tables" ["_law_days", "_law_lots"] (spTables P w) := by
  refine d.ok sc__law_tables (fun vs H Q E h => ?_) (fun f cdv A outer s H vs Q E hr h => ?_)
  · obtain ⟨l, vw, ds, web, n, rfl, _⟩ := h
    rfl
  · obtain ⟨l, vw, ds, web, n, rfl, hl, hw, wok, dz, dn, nz, q⟩ := h
    refine ⟨_, (pss_cons (pss 2 sc__law_tables.nd pe_dnewN)
      (pss_cons (ps_for PassesOwn.never rfl (pi_tup (pv 1)) (pgn 3 sc__law_tables.nd)
        (pss_cons (pss 4 sc__law_tables.nd pe_dnewN)
        (pss_cons (ps_for PassesOwn.never rfl (pi_list (pv 0)) (pgn 5 sc__law_tables.nd)
          (pss_cons (pss 6 sc__law_tables.nd (pe_setdN hr.units (pv 4) (pe_fn o__law_board hr (pa_cons (pv 5) pa_nil)) pe_dnewN ⟨rfl, rfl, rfl, rfl⟩))
          (pss_one (ps_putN hr.units (pv 6) (pe_fn o__law_part hr (pa_cons (pv 5) (pa_cons (pv 3) pa_nil))) pe_bl rfl))))
        (pss_one (ps_putN hr.units (pv 2) (pv 3) (pv 4) rfl)))))
      (pss_one (ps_ret (pv 2))))), ?_⟩
    refine fun fd B nfd aB DB => ?_
    have sB : Same H B := aB.same nfd
    obtain ⟨a, xs, rfl, ha, hxs⟩ := dat_tup.mp hw
    have hlen := dats_len hxs
    rw [List.length_map] at hlen
    have wz := wok.2
    refine ⟨_, rfl, a, rfl, ⟨xs, SqT.of (sB _ _ ha)⟩, for_tup (xs := xs) (fun i σ H' => (∃ u3 u4 u5 u6 : Option V, σ = [some (.ref l), some (.ref a), some (.ref fd), u3, u4, u5, u6]) ∧ Same H H' ∧ ∃ kvs, DN P w H' fd kvs ∧ kvs.length ≤ i ∧ ∀ lot ∈ web.take i, ∃ td, valV kvs (enc lot) = some (V.ref td) ∧ TableD P w (hid H' fd) td lot ds)
      ⟨⟨none, none, none, none, rfl⟩, sB, [], DB, Nat.le_refl 0, fun lot hl => nomatch hl⟩ (fun i σ H' _ p => SqT.of (p.2.1 _ _ ha)) ?_ ?_⟩
    · rintro i v σ H1 hv ⟨⟨u3, u4, u5, u6, rfl⟩, sm, fkv, Df, fl, each⟩
      obtain ⟨dd, g1, g2⟩ := dats_getV hxs hv
      rw [List.getElem?_map] at g1
      obtain ⟨lot, hlot, rfl⟩ := Option.map_eq_some_iff.mp g1
      have lin := List.mem_of_getElem? hlot
      obtain ⟨lk1, lk2, lk3⟩ := wok.1 lot lin
      have hi := (List.getElem?_eq_some_iff.mp hlot).1
      have i1 : Is H1 lot v := g2.same sm
      refine fun td H2 ntd a2 D2 => ?_
      have s2 : Same H1 H2 := a2.same ntd
      obtain ⟨dv, hdv, hdd⟩ := hl.same sm
      have hdl := dats_len hdd
      rw [List.length_map] at hdl
      refine ⟨_, rfl, l, rfl, ⟨dv, SqL.of (s2 _ _ hdv)⟩, for_list (xs := dv) (fun j σ H' => (∃ u5 u6 : Option V, σ = [some (.ref l), some (.ref a), some (.ref fd), some v, some (.ref td), u5, u6]) ∧ Same H1 H' ∧ TableF P w H1 H' td lot (ds.take j))
        ⟨⟨u5, u6, rfl⟩, s2, [], D2, Nat.le_refl 0, fun b => .inl ⟨rfl, fun x hx => nomatch hx⟩, fun b b' l e => by cases e⟩ (fun j σ H' _ p => SqL.of (p.2.1 _ _ hdv)) ?_ ?_⟩
      · rintro j y σ H3 hy ⟨⟨u5, u6, rfl⟩, s3, kvs, Dk, kl, cs, inj⟩
        obtain ⟨dm, k1, k2⟩ := dats_getV hdd hy
        rw [List.getElem?_map] at k1
        obtain ⟨x, hx, rfl⟩ := Option.map_eq_some_iff.mp k1
        have xl := dn x (List.mem_of_getElem? hx)
        have ix : Is H3 x y := k2.same s3
        have il : Is H3 lot v := i1.same s3
        have tl : (ds.take j).length ≤ ds.length := by rw [List.length_take]; omega
        have tk := take_snoc hx
        refine ⟨_, rfl, td, rfl, ⟨kvs, Dk⟩, _, rfl, _, x, rfl, ix, by omega, fun bv H4 s4 hb => ?_⟩
        refine fun e0 H5 ne0 a5 d5 => ?_
        have s5 : Same H4 H5 := a5.same ne0
        have s35 : Same H3 H5 := s4.trans s5
        have Dk5 : DN P w H5 td kvs := Dk.same s35
        refine ⟨kvs, _, Dk5, hb.same s5, okd (boardOf x), by rw [sizeLine_eq]; omega, fun v0 hv0 => ?_, fun hn H7 a7 D7 => ?_⟩
        · have hv0' : valV kvs (enc (boardOf x)) = some v0 := hv0
          rcases cs (boardOf x) with ⟨h, _⟩ | ⟨pd, q1, q2, q3, q4⟩
          · rw [h] at hv0'
            cases hv0'
          · rw [q1] at hv0'
            cases hv0'
            refine ⟨_, rfl, _, rfl, _, rfl, y, v, x, lot, rfl, ix.same s35, il.same s35, by rw [xl]; exact lk2, lk3, fun pv' H6 s6 hp => ?_⟩
            obtain ⟨pk, pk1, pk2, pk3⟩ := q4.same (s35.trans s6)
            have pln := partsFor_len (boardOf x) (ds.take j) lot
            refine ⟨pd, pk, _, rfl, pk1, hp, okd (notesOf x.1 lot), by rw [sizeLine_eq]; omega, fun H7 a7 d7 => ?_⟩
            have t7 : Tx H6 H7 := a7.tx pk1.ntup
            have s36 : Same H3 H6 := s35.trans s6
            refine ⟨⟨_, _, rfl⟩, At1.sameOf (s3.trans s36) a7 q2, kvs, (Dk.same s36).keep (a7 td q3.symm) t7, by rw [tk, List.length_append]; omega, fun b => ?_, inj⟩
            rw [tk, partsFor_snoc]
            by_cases e : boardOf x = b
            · subst e
              refine .inr ⟨pd, q1, q2, q3, ?_⟩
              rw [if_pos rfl]
              exact setN_put pk2 pk3 d7
            · rw [if_neg e, List.append_nil]
              rcases cs b with ⟨h1, h2⟩ | ⟨p2, e1, e2, e3, e4⟩
              · refine .inl ⟨h1, fun z hz => ?_⟩
                rcases List.mem_append.mp hz with h | h
                · exact h2 z h
                · rw [List.mem_singleton] at h
                  exact h ▸ e
              · have ne : p2 ≠ pd := fun z => e (inj (boardOf x) b pd q1 (z ▸ e1))
                exact .inr ⟨p2, e1, e2, e3, (e4.same s36).keep (a7 p2 ne) t7⟩
        · have hn' : valV kvs (enc (boardOf x)) = none := hn
          have pd : e0 ≠ td := fun z => by
            rw [z] at ne0
            exact (Dk.same s4).some ne0
          have d57 : DN P w H7 e0 [] := d5.keep (a7 e0 pd) (a7.tx Dk5.ntup)
          have t7 : Tx H5 H7 := a7.tx Dk5.ntup
          have ntd1 : H1 td = none := ntd
          have s17 : Same H1 H7 := At1.sameOf (s3.trans s35) a7 ntd1
          refine ⟨_, rfl, _, rfl, _, rfl, y, v, x, lot, rfl, Dat.mono t7 _ _ (ix.same s35), Dat.mono t7 _ _ (il.same s35), by rw [xl]; exact lk2, lk3, fun pv' H8 s8 hp => ?_⟩
          refine ⟨e0, [], _, rfl, d57.same s8, hp, okd (notesOf x.1 lot), by show 0 < sizeLine; decide, fun H9 a9 d9 => ?_⟩
          have t9 : Tx H8 H9 := a9.tx (d57.same s8).ntup
          have np' : H1 e0 = none := (s3.trans s4).free ne0
          have norow : partsFor (boardOf x) (ds.take j) lot = [] := by
            rcases cs (boardOf x) with ⟨_, h⟩ | ⟨p2, e1, _⟩
            · unfold partsFor
              rw [List.filter_eq_nil_iff.mpr]
              · rfl
              · intro z hz h5
                exact h z hz (of_decide_eq_true h5)
            · rw [hn'] at e1
              cases e1
          have D9 : DN P w H9 td (putK kvs (enc (boardOf x)) (.ref e0)) := (D7.same s8).keep (a9 td pd.symm) t9
          refine ⟨⟨_, _, rfl⟩, At1.sameOf (s17.trans s8) a9 np', _, D9, ?_, fun b => ?_, fun b b' l2 e1 e2 => ?_⟩
          · have := length_putK kvs (enc (boardOf x)) (V.ref e0)
            rw [tk, List.length_append, List.length_singleton]
            omega
          · rw [valV_put, tk, partsFor_snoc]
            by_cases e : boardOf x = b
            · subst e
              rw [if_pos rfl, if_pos rfl, norow]
              exact .inr ⟨e0, rfl, np', pd, setN_put (kvs := []) (xs := []) (Nat.le_refl 0) (fun _ => rfl) d9⟩
            · rw [if_neg (fun z : enc b = enc (boardOf x) => e (Enc.inj _ _ z).symm), if_neg e, List.append_nil]
              rcases cs b with ⟨h1, h2⟩ | ⟨p2, p21, p22, p23, p24⟩
              · refine .inl ⟨h1, fun z hz => ?_⟩
                rcases List.mem_append.mp hz with h | h
                · exact h2 z h
                · rw [List.mem_singleton] at h
                  exact h ▸ e
              · have ne : p2 ≠ e0 := fun z => by
                  obtain ⟨kk, kd, _⟩ := p24.same s4
                  exact kd.some (z ▸ ne0)
                exact .inr ⟨p2, p21, p22, p23, (((p24.same s35).keep (a7 p2 p23) t7).same s8).keep (a9 p2 ne) t9⟩
          · rw [valV_put] at e1 e2
            have old : ∀ b, valV kvs (enc b) = some (.ref e0) → False := fun b e => by
              rcases cs b with ⟨h, _⟩ | ⟨p2, p21, p22, p23, p24⟩
              · rw [h] at e
                cases e
              · rw [p21] at e
                cases e
                obtain ⟨kk, kd, _⟩ := p24.same s4
                exact kd.some ne0
            by_cases c1 : b = boardOf x
            · by_cases c2 : b' = boardOf x
              · rw [c1, c2]
              · rw [if_pos (congrArg enc c1)] at e1
                rw [if_neg (fun z : enc b' = enc (boardOf x) => c2 (Enc.inj _ _ z))] at e2
                cases e1
                exact (old b' e2).elim
            · rw [if_neg (fun z : enc b = enc (boardOf x) => c1 (Enc.inj _ _ z))] at e1
              by_cases c2 : b' = boardOf x
              · rw [if_pos (congrArg enc c2)] at e2
                cases e2
                exact (old b e1).elim
              · rw [if_neg (fun z : enc b' = enc (boardOf x) => c2 (Enc.inj _ _ z))] at e2
                exact inj b b' l2 e1 e2
      · rintro σ H3 ⟨⟨u5, u6, rfl⟩, s3, tf⟩
        rw [hdl, List.take_length] at tf
        have Df3 : DN P w H3 fd fkv := Df.same s3
        have ntf : td ≠ fd := fun z => Df.some (z ▸ ntd)
        refine ⟨_, rfl, _, rfl, _, rfl, fd, fkv, _, rfl, Df3, i1.same s3, okd lot, by rw [sizeLine_eq]; omega, fun H4 a4 D4 => ?_⟩
        have he := hid_at1 a4
        refine ⟨⟨_, _, _, _, rfl⟩, At1.sameOf (sm.trans s3) a4 nfd, _, D4, ?_, fun lt hlt => ?_⟩
        · have := length_putK fkv (NestedKey.tup (lot.map enc)) (V.ref td)
          omega
        · show ∃ t, valV (putK fkv (enc lot) (V.ref td)) (enc lt) = some (V.ref t) ∧ _
          rw [valV_put, he]
          by_cases e : lt = lot
          · subst e
            rw [if_pos rfl]
            exact ⟨td, rfl, tf.done ntf Df.some Df3.ntup⟩
          · rw [if_neg (fun z => e (Enc.inj _ _ z))]
            rw [take_snoc hlot] at hlt
            rcases List.mem_append.mp hlt with h | h
            · obtain ⟨t, t1, t2⟩ := each lt h
              exact ⟨t, t1, t2.same (hid_mono s3)⟩
            · rw [List.mem_singleton] at h
              exact (e h).elim
    · rintro σ H1 ⟨⟨u3, u4, u5, u6, rfl⟩, sm, fkv, Df, fl, each⟩
      rw [hlen, List.take_length] at each
      refine ⟨_, rfl, q fd H1 nfd sm ⟨fkv, Df, fun lot hl => ?_⟩⟩
      obtain ⟨t, t1, t2⟩ := each lot hl
      exact ⟨t, t1, t2.same hid_same⟩
def spUnseen (P : Program) (w : World) : Sp := fun vs H Q _ => ∃ (dv vw : V) (fd : Addr) (d : Day) (ds : List Day) (web : List (List Nat)) (n : Nat), vs = [dv, .ref fd, vw] ∧ Is H d dv ∧ TabsD P w H fd web ds ∧ Is H web vw ∧ WebOk n web ∧ d.1.length = n ∧ n ≤ 1000 ∧
  ∀ H', Same H H' → Q (.bl (web.all fun lot => ds.any fun t => decide (boardOf t = boardOf d) && decide (notesOf t.1 lot = notesOf d.1 lot))) H'
theorem ok_law_unseen (B : Bi mg) (o__law_board : Ok P w K mg base 1 "_law_board" ["_law_day"] spBoard) (o__law_part : Ok P w K mg base 1 "_law_part" ["_law_day", "_law_lot_here"] spLawPart) (d : Df K mg "_law_unseen" "_law_unseen" s__law_unseen ["_law_day", "_law_tables_here", "_law_lots"]) :
    Ok P w K mg base 2 "_law_unseen" ["_law_day", "_law_tables_here", "_law_lots"] (spUnseen P w) := by
  refine d.ok sc__law_unseen (fun vs H Q E h => ?_) (fun f cdv A outer s H vs Q E hr h => ?_)
  · obtain ⟨dv, vw, fd, d, ds, web, n, rfl, _⟩ := h
    rfl
  · obtain ⟨dv, vw, fd, d, ds, web, n, rfl, hd, tabs, hw, wok, dn, nz, q⟩ := h
    refine ⟨_, (pss_cons (pss 3 sc__law_unseen.nd (pe_fn o__law_board hr (pa_cons (pv 0) pa_nil)))
      (pss_one (ps_ret (pe_callB (cr_all rfl) (by rfl) B.all (by decide +kernel) (pa_cons (pe_lc (own := [("_law_lot_here", 4)]) rfl sc__law_unseen.nd (pi_tup (pv 2)) (blkOk_by (N := ["_law_day", "_law_tables_here", "_law_lots", "_law_the_board", "_law_lot_here"]) (sc := defScope s__law_unseen) (by decide +kernel)) (fun _ _ _ _ _ => (pgn 4 sc__law_unseen.nd)) (fun _ _ _ _ _ => pts_nil) (fun _ _ _ _ _ => (pe_cmpR (op_inDNP P w rfl rfl hr.units) (pe_fn o__law_part hr (pa_cons (pv 0) (pa_cons (pv 4) pa_nil))) (pe_get2NP P w rfl rfl hr.units (pe_getNP P w rfl rfl hr.units (pv 1) (pv 4) (fun _ _ => rfl)) (pv 3) (pe_dnewNP P w rfl rfl) ⟨rfl, rfl, rfl, rfl⟩) (by rfl)))) pa_nil))))), ?_⟩
    refine ⟨_, rfl, dv, d, rfl, hd, by omega, fun bv H1 s1 hb => ?_⟩
    obtain ⟨a, xs, rfl, ha, hxs⟩ := dat_tup.mp (hw.same s1)
    have hlen := dats_len hxs
    rw [List.length_map] at hlen
    have wz := wok.2
    refine ⟨_, rfl, a, rfl, ⟨xs, SqT.of ha⟩, fun D hD => lc_val walk_tup (fun i => web[i]?.map fun lot => V.bl (ds.any fun t => decide (boardOf t = boardOf d) && decide (notesOf t.1 lot = notesOf d.1 lot))) (by have := sizeLine_eq; omega) hD (fun H' sm => SqT.of (sm _ _ ha)) (fun i y H2 hy _ => ?_) ?_ ?_⟩
    · obtain ⟨dd, g1, g2⟩ := dats_getV hxs hy
      rw [List.getElem?_map] at g1
      obtain ⟨lot, hlot, rfl⟩ := Option.map_eq_some_iff.mp g1
      rw [hlot]
      exact evb_yes
    · intro i y H2 bb hy s2 hbb Q' q'
      obtain ⟨dd, g1, g2⟩ := dats_getV hxs hy
      rw [List.getElem?_map] at g1
      obtain ⟨lot, hlot, rfl⟩ := Option.map_eq_some_iff.mp g1
      rw [hlot] at hbb
      cases hbb
      have lin := List.mem_of_getElem? hlot
      have s02 : Same H H2 := s1.trans s2
      refine ⟨_, rfl, _, rfl, dv, y, d, lot, rfl, hd.same s02, g2.same s2, by rw [dn]; exact (wok.1 lot lin).2.1, (wok.1 lot lin).2.2, fun pv' H3 s3 hp => ?_⟩
      have s03 : Same H H3 := s02.trans s3
      obtain ⟨fk, fk1, fk2⟩ := tabs.same s03
      obtain ⟨td, td1, tk, tk1, tk2⟩ := fk2 lot lin
      refine ⟨_, rfl, _, rfl, fd, fk, _, _, rfl, fk1, (g2.same s2).same s3, okd lot, td1, td, rfl, ⟨tk, tk1⟩, _, rfl, fun e0 H4 ne0 a4 d4 => ?_⟩
      have s4 : Same H3 H4 := a4.same ne0
      refine ⟨tk, _, tk1.same s4, ((hb.same s2).same s3).same s4, okd (boardOf d), ?_⟩
      rcases tk2 (boardOf d) with ⟨h1, h2⟩ | ⟨pd, p1, pk, pk1, _, pk3⟩
      · refine ⟨_, e0, [], ?_, hp.same s4, okd (notesOf d.1 lot), d4, q' _ _ (s3.trans s4) ?_⟩
        · have h1' : valV tk (NestedKey.tup [enc (boardOf d).1, enc (boardOf d).2]) = none := h1
          rw [h1']
          rfl
        · show V.bl false = V.bl _
          congr 1
          symm
          rw [List.any_eq_false]
          intro t ht
          rw [decide_eq_false (h2 t ht), Bool.false_and]
          exact Bool.false_ne_true
      · refine ⟨_, pd, pk, ?_, hp.same s4, okd (notesOf d.1 lot), pk1.same s4, q' _ _ (s3.trans s4) ?_⟩
        · have h1' : valV tk (NestedKey.tup [enc (boardOf d).1, enc (boardOf d).2]) = some (.ref pd) := p1
          rw [h1']
          rfl
        · show V.bl (valV pk (enc (notesOf d.1 lot))).isSome = V.bl _
          rw [pk3, ← partsFor_any]
          exact congrArg V.bl (decide_eq_decide.mpr Iff.rfl)
    · intro H2 s2 hD'
      have e : xs.length = (web.map fun lot => V.bl (ds.any fun t => decide (boardOf t = boardOf d) && decide (notesOf t.1 lot = notesOf d.1 lot))).length := by rw [List.length_map]; exact hlen
      rw [e, outs_map (fun i => (List.getElem?_map ..).symm)] at hD'
      have e2 : (web.map fun lot => V.bl (ds.any fun t => decide (boardOf t = boardOf d) && decide (notesOf t.1 lot = notesOf d.1 lot))) = (web.map fun lot => ds.any fun t => decide (boardOf t = boardOf d) && decide (notesOf t.1 lot = notesOf d.1 lot)).map V.bl := by rw [List.map_map]; rfl
      rw [e2] at hD'
      refine ⟨D, _, rfl, SqL.of hD', ?_⟩
      rw [all_flags]
      exact q H2 (s1.trans s2)
def spLawFalse : Sp := fun vs H Q _ => ∃ (hv vw : V) (p : Pts) (n : Nat) (web : List (List Nat)), vs = [hv, .int n, vw] ∧ Is H p hv ∧ PtsOk p ∧ Fits p n ∧ Is H web vw ∧ WebOk n web ∧ ∀ v H', Same H H' → Is H' (due p n web) v → Q v H'
theorem ok_law_false_of (o__law_true_days : Ok P w K mg base 2 "_law_true_days" ["_law_parts_here", "_law_many"] spLawTrue) (o__law_all_days : Ok P w K mg base 2 "_law_all_days" ["_law_sizes_here", "_law_many"] spLawAll)
    (o__law_tables : Ok P w K mg base 2 "_law_tables" ["_law_days", "_law_lots"] (spTables P w)) (o__law_unseen : Ok P w K mg base 2 "_law_unseen" ["_law_day", "_law_tables_here", "_law_lots"] (spUnseen P w))
    (d : Df K mg "_law_false_of" "_law_false_of" s__law_false_of ["_law_parts_here", "_law_many", "_law_lots"]) : Ok P w K mg base 3 "_law_false_of" ["_law_parts_here", "_law_many", "_law_lots"] spLawFalse := by
  refine d.ok sc__law_false_of (fun vs H Q E h => ?_) (fun f cdv A outer s H vs Q E hr h => ?_)
  · obtain ⟨hv, vw, p, n, web, rfl, _⟩ := h
    rfl
  · obtain ⟨hv, vw, p, n, web, rfl, hp, ok, fit, hw, wok, q⟩ := h
    refine ⟨_, (pss_cons (pss 3 sc__law_false_of.nd (pe_fn o__law_true_days hr (pa_cons (pv 0) (pa_cons (pv 1) pa_nil))))
      (pss_cons (pss 4 sc__law_false_of.nd (pe_fn o__law_tables hr (pa_cons (pv 3) (pa_cons (pv 2) pa_nil))))
      (pss_cons (pss 5 sc__law_false_of.nd pe_dnewN)
      (pss_cons (ps_for PassesOwn.never rfl (pi_list (pv 3)) (pgn 6 sc__law_false_of.nd)
        (pss_one (ps_putN hr.units (pv 5) (pv 6) pe_bl rfl)))
      (pss_cons (ps_for PassesOwn.never rfl (pi_list (pe_fn o__law_all_days hr (pa_cons (pe_ix ix_dat (pv 0) pe_int (fun _ _ => rfl)) (pa_cons (pv 1) pa_nil)))) (pgn 6 sc__law_false_of.nd)
        (pss_one (ps_if (PW.pt (pw_and (pt_cmpR (op_notInDN hr.units) (pv 6) (pv 5) (by rfl)) (pw_and1 (pt_val (pe_fn o__law_unseen hr (pa_cons (pv 6) (pa_cons (pv 4) (pa_cons (pv 2) pa_nil))))))))
          (pss_one (ps_ret (pv 6)))
          pss_nil)))
      (pss_one (ps_ret pe_non))))))), ?_⟩
    have n6 := fit.hi
    have tz := tdays_len fit
    have az := days_few fit
    have tlen : ∀ {t : Day}, t ∈ allDays p.z n → t.1.length = n := fun h => (rowsN_mem.mp (allDays_mem.mp h).1).1
    refine ⟨_, rfl, _, rfl, hv, p, n, rfl, hp, ok, fit, fun l H1 nl s1 ls => ?_⟩
    refine ⟨_, rfl, _, rfl, l, vw, tdays p n, web, n, rfl, ls, hw.same s1, wok, by omega, fun x hx => tlen (tdays_mem.mp hx).1, by omega, fun fd H2 nfd s2 tabs => ?_⟩
    refine fun kd H3 nkd a3 d3 => ?_
    have s12 : Same H H2 := s1.trans s2
    have s3 : Same H2 H3 := a3.same nkd
    obtain ⟨dv, hdv, hdd⟩ := ls.same s2
    have hdl := dats_len hdd
    rw [List.length_map] at hdl
    refine ⟨_, rfl, l, rfl, ⟨dv, SqL.of (s3 _ _ hdv)⟩, for_list (xs := dv) (fun j σ H' => (∃ u6 : Option V, σ = [some hv, some (.int n), some vw, some (.ref l), some (.ref fd), some (.ref kd), u6]) ∧ Same H2 H' ∧ SetN P w H' kd ((tdays p n).take j))
      ⟨⟨none, rfl⟩, s3, setN_nil d3⟩ (fun j σ H' _ p => SqL.of (p.2.1 _ _ hdv)) ?_ ?_⟩
    · rintro j y σ H4 hy ⟨⟨u6, rfl⟩, s4, st⟩
      obtain ⟨dm, k1, k2⟩ := dats_getV hdd hy
      rw [List.getElem?_map] at k1
      obtain ⟨x, hx, rfl⟩ := Option.map_eq_some_iff.mp k1
      obtain ⟨kvs, c1, c2, c3⟩ := st
      have tl : ((tdays p n).take j).length ≤ (tdays p n).length := by rw [List.length_take]; omega
      refine ⟨_, rfl, _, rfl, kd, kvs, _, rfl, c1, k2.same s4, okd x, by rw [sizeLine_eq]; omega, fun H5 a5 d5 => ⟨⟨_, rfl⟩, At1.sameOf s4 a5 nkd, ?_⟩⟩
      rw [take_snoc hx]
      exact setN_put c2 c3 d5
    · rintro σ H4 ⟨⟨u6, rfl⟩, s4, st⟩
      rw [hdl, List.take_length] at st
      have s04 : Same H H4 := s12.trans s4
      refine ⟨_, rfl, _, 0, _, hp.same s04, rfl, rfl, fun zv hz => ⟨_, rfl, zv, p, n, rfl, hz, ok, fit, fun al H5 nal s5 la => ?_⟩⟩
      obtain ⟨ys, hys, hyd⟩ := id la
      have hyl := dats_len hyd
      rw [List.length_map] at hyl
      have s05 : Same H H5 := s04.trans s5
      refine ⟨al, rfl, ⟨ys, SqL.of hys⟩, for_list (xs := ys) (fun j σ H' => (∃ u6 : Option V, σ = [some hv, some (.int n), some vw, some (.ref l), some (.ref fd), some (.ref kd), u6]) ∧ Same H5 H' ∧ ∀ d ∈ (allDays p.z n).take j, cand p n web d = false)
        ⟨⟨_, rfl⟩, Same.refl _, fun d hd => nomatch hd⟩ (fun j σ H' _ p => SqL.of (p.2.1 _ _ hys)) ?_ ?_⟩
      · rintro j y σ H6 hy ⟨⟨u6, rfl⟩, s6, no⟩
        obtain ⟨dm, k1, k2⟩ := dats_getV hyd hy
        rw [List.getElem?_map] at k1
        obtain ⟨x, hx, rfl⟩ := Option.map_eq_some_iff.mp k1
        have xin := List.mem_of_getElem? hx
        have ix : Is H6 x y := k2.same s6
        obtain ⟨kvs, c1, _, c3⟩ := (st.same s5).same s6
        have e0 : (valV kvs (enc x)).isSome = isT p x := by
          have c4 := c3 x
          cases hh : (valV kvs (enc x)).isSome with
          | true =>
            rw [hh] at c4
            exact ((tdays_mem.mp (@of_decide_eq_true _ (_) c4.symm)).2).symm
          | false =>
            rw [hh] at c4
            cases ht : isT p x with
            | false => rfl
            | true => exact absurd (tdays_mem.mpr ⟨xin, ht⟩) (@of_decide_eq_false _ (_) c4.symm)
        have e1 : (!(valV kvs (enc x)).isSome) = !(isT p x) := congrArg not e0
        have next : cand p n web x = false → ∀ d ∈ (allDays p.z n).take (j + 1), cand p n web d = false := fun hc d hd => by
          rw [take_snoc hx] at hd
          rcases List.mem_append.mp hd with h | h
          · exact no d h
          · rw [List.mem_singleton] at h
            exact h ▸ hc
        refine ⟨_, rfl, _, rfl, _, kd, kvs, rfl, ix, okd x, c1, _, rfl, ?_⟩
        show (if (!(valV kvs (enc x)).isSome) = true then _ else _)
        rw [e1]
        cases ht : isT p x with
        | true =>
          refine iteF' rfl (iteF ⟨⟨_, rfl⟩, s6, next ?_⟩)
          unfold cand
          rw [ht]
          rfl
        | false =>
          refine iteT' rfl ⟨_, rfl, _, rfl, _, rfl, y, vw, fd, x, tdays p n, web, n, rfl, ix, ((tabs.same s4).same s5).same s6, (hw.same s05).same s6, wok, tlen xin, by omega, fun H7 s7 => ⟨_, rfl, ?_⟩⟩
          have e2 : (web.all fun lot => (tdays p n).any fun t => decide (boardOf t = boardOf x) && decide (notesOf t.1 lot = notesOf x.1 lot)) = cand p n web x := by
            unfold cand
            rw [ht]
            rfl
          rw [e2]
          cases hc : cand p n web x with
          | false => exact iteF ⟨⟨_, rfl⟩, s6.trans s7, next hc⟩
          | true =>
            refine iteT ⟨_, rfl, q y H7 ((s05.trans s6).trans s7) ?_⟩
            have e3 : due p n web = some x := by
              unfold due
              rw [split_at hx]
              exact find_pre no hc
            rw [e3]
            exact ix.same s7
      · rintro σ H6 ⟨⟨u6, rfl⟩, s6, no⟩
        rw [hyl, List.take_length] at no
        refine q .non H6 (s05.trans s6) ?_
        rw [due_none no]
        show Dat H6 NestedKey.none V.non
        unfold Dat
        rfl
end
end Fd

/-! The source of draws. -/
namespace Fd
open PySem PySem.Spec PyProof.Rows L2
open Enc (enc)
abbrev s__law_source : Stmt := topS 46
theorem sc__law_source : FnScope ["_law_script", "_law_k", "_law_fold", "_law_item", "_law_cell"] ["_law_script", "_law_k"] (defScope s__law_source) := ⟨rfl, rfl, rfl, by decide +kernel, rfl, by decide +kernel, by decide +kernel⟩
abbrev s__law_draw : Stmt := topS 47
theorem sc__law_draw : FnScope ["_law_source_here", "_law_many", "_law_got", "_law_number"] ["_law_source_here", "_law_many"] (defScope s__law_draw) := ⟨rfl, rfl, rfl, by decide +kernel, rfl, by decide +kernel, by decide +kernel⟩
abbrev s__law_sizes : Stmt := topS 48
theorem sc__law_sizes : FnScope ["_law_source_here", "_law_sizes_here"] ["_law_source_here"] (defScope s__law_sizes) := ⟨rfl, rfl, rfl, by decide +kernel, rfl, by decide +kernel, by decide +kernel⟩
/-- at src the five numbers that the draws live on -/
def SrcOk (H : Hp) (src : Addr) : Prop := ∃ c r1 r2 k n : Int, H src = some (HO.lst [V.int c, V.int r1, V.int r2, V.int k, V.int n])
theorem SrcOk.ntup {H : Hp} {src : Addr} (h : SrcOk H src) (xs : List V) : H src ≠ some (.tup xs) := fun e => by
  obtain ⟨c, r1, r2, k, n, q⟩ := h
  rw [q] at e
  cases e
theorem SrcOk.some {H : Hp} {src : Addr} (h : SrcOk H src) : H src ≠ none := fun e => by
  obtain ⟨c, r1, r2, k, n, q⟩ := h
  rw [q] at e
  cases e
theorem SrcOk.same {H H' : Hp} {src : Addr} (h : SrcOk H src) (s : Same H H') : SrcOk H' src := by
  obtain ⟨c, r1, r2, k, n, q⟩ := h
  exact ⟨c, r1, r2, k, n, s _ _ q⟩
theorem SrcOk.at {H H' : Hp} {src : Addr} (h : SrcOk H src) (e : H' src = H src) : SrcOk H' src := by
  obtain ⟨c, r1, r2, k, n, q⟩ := h
  exact ⟨c, r1, r2, k, n, e.trans q⟩
theorem SrcOk.lst {H : Hp} {src : Addr} (h : SrcOk H src) : ∃ vs : List V, H src = .some (HO.lst vs) := by
  obtain ⟨c, r1, r2, k, n, q⟩ := h
  exact ⟨_, q⟩
theorem lit1 : (0 : Int) < 2147483629 := by decide
theorem lit2 : (0 : Int) < 2147483647 := by decide
theorem lit3 : (0 : Int) < 2147483399 := by decide
section
variable {P : Program} {w : World} {K : PySem.W.Frag} {mg : Str → Option Value} {base : Heap}
theorem sql_same {K : PySem.W.Frag} {H H' : Hp} {a : Addr} {xs : List V} (h : SqL K H a xs) (s : Same H H') : SqL K H' a xs := by
  rcases h with (h | ⟨o, h⟩) | h
  · exact .inl (.inl (s _ _ h))
  · exact .inl (.inr ⟨o, s _ _ h⟩)
  · exact .inr h
def spSource (K : PySem.W.Frag) : Sp := fun vs H Q _ => ∃ (ls : Addr) (ns : List Int) (k : Nat), vs = [.ref ls, .int k] ∧ SqL K H ls (ns.map V.int) ∧ ∀ src H', H src = none → Same H H' → SrcOk H' src → Q (.ref src) H'
theorem ok_law_source (B : Bi mg) (d : Df K mg "_law_source" "_law_source" s__law_source ["_law_script", "_law_k"]) : Ok P w K mg base 1 "_law_source" ["_law_script", "_law_k"] (spSource K) := by
  refine d.ok sc__law_source (fun vs H Q E h => ?_) (fun f cdv A outer s H vs Q E hr h => ?_)
  · obtain ⟨ls, ns, k, rfl, _⟩ := h
    rfl
  · obtain ⟨ls, ns, k, rfl, hl, q⟩ := h
    refine ⟨_, (pss_cons (pss 2 sc__law_source.nd pe_int)
      (pss_cons (ps_for PassesOwn.never rfl (pi_list (pe_slice sl_list (pv 0) po_none (po_some pe_int))) (pgn 3 sc__law_source.nd)
        (pss_one (pss 2 sc__law_source.nd (pe_op op_mod (pe_callTy call_int1 (by rfl) B.int (by decide +kernel) (pa_cons (pe_op op_add (pe_op op_add (pe_op op_mul (pv 2) pe_int) (pe_op op_mod (pe_callTy call_int1 (by rfl) B.int (by decide +kernel) (pa_cons (pv 3) pa_nil)) pe_int)) pe_int) pa_nil)) pe_int))))
      (pss_cons (pss 4 sc__law_source.nd (pe_ifExp (pt_cmpR op_lt (pv 1) (pe_callB call_len_seq (by rfl) B.len (by decide +kernel) (pa_cons (pv 0) pa_nil)) (nomark _)) (pe_callTy call_int1 (by rfl) B.int (by decide +kernel) (pa_cons (pe_ix ix_list (pv 0) (pv 1) (fun _ _ => rfl)) pa_nil)) pe_int))
      (pss_one (ps_ret (pe_lstD (pa_cons (pe_ifExp (pt_cmpR op_ge (pv 4) (pe_op op_pow pe_int pe_int) (nomark _)) (pv 4) pe_int) (pa_cons (pe_op op_mod (pe_callTy call_int1 (by rfl) B.int (by decide +kernel) (pa_cons (pv 4) pa_nil)) pe_int) (pa_cons (pv 2) (pa_cons (pe_op op_add (pv 1) pe_int) (pa_cons pe_int pa_nil))))))))))), ?_⟩
    refine ⟨_, rfl, _, rfl, ls, _, rfl, hl, fun sl nsl => ⟨sl, rfl, ⟨_, SqL.of upd_same⟩, ?_⟩⟩
    refine for_list (xs := cutV (ns.map V.int) none (some 63)) (fun i σ H' => (∃ (fold : Int) (u3 : Option V), σ = [some (.ref ls), some (.int k), some (.int fold), u3, none]) ∧ H' = upd H sl (.lst (cutV (ns.map V.int) none (some 63)))) ⟨⟨17, none, rfl⟩, rfl⟩ (fun i σ H' _ p => by rw [p.2]; exact SqL.of upd_same) ?_ ?_
    · rintro i y σ H1 hy ⟨⟨fold, u3, rfl⟩, rfl⟩
      have e : cutV (ns.map V.int) none (some 63) = (ns.map V.int).take 63 := cut_take _ 63
      rw [e] at hy
      obtain ⟨m, _, rfl⟩ := List.mem_map.mp (List.mem_of_mem_take (List.mem_of_getElem? hy))
      exact ⟨_, rfl, _, _, rfl, rfl, .inr ⟨by decide, by decide⟩, _, rfl, .inl ⟨_, rfl, _, _, rfl, rfl, lit1, _, _, rfl, rfl, _, _, rfl, rfl, .inl ⟨_, rfl, _, _, rfl, rfl, lit2, ⟨_, _, rfl⟩, rfl⟩⟩⟩
    · rintro σ H1 ⟨⟨fold, u3, rfl⟩, rfl⟩
      have sm : Same H (upd H sl (.lst (cutV (ns.map V.int) none (some 63)))) := same_new nsl
      generalize upd H sl (.lst (cutV (ns.map V.int) none (some 63))) = H2 at *
      have hl2 : SqL K H2 ls (ns.map V.int) := sql_same hl sm
      refine ⟨_, rfl, _, rfl, ls, _, rfl, .inl hl2, _, _, rfl, rfl, _, rfl, ?_⟩
      refine tif_of (fun v H' => ∃ c : Int, v = .int c ∧ H' = H2) (fun hc Q' q' => ?_) (fun hc Q' q' => q' _ _ ⟨0, rfl, rfl⟩) ?_
      · have hk : k < ns.length := by
          have := of_decide_eq_true hc
          rw [List.length_map] at this
          omega
        exact ⟨_, rfl, _, rfl, ls, _, _, _, rfl, rfl, hl2, atI_nat (v := V.int ns[k]) (by rw [List.getElem?_map, List.getElem?_eq_getElem hk]; rfl), .inl ⟨_, rfl, q' _ _ ⟨_, rfl, rfl⟩⟩⟩
      · rintro v H3 ⟨c, rfl, rfl⟩
        refine ⟨_, rfl, _, _, rfl, rfl, ⟨by decide, by decide, by decide⟩, _, _, rfl, rfl, _, rfl, ?_⟩
        refine tif_of (fun v H' => ∃ c : Int, v = .int c ∧ H' = H3) (fun hc Q' q' => ⟨_, rfl, q' _ _ ⟨_, rfl, rfl⟩⟩) (fun hc Q' q' => q' _ _ ⟨0, rfl, rfl⟩) ?_
        rintro v H4 ⟨c1, rfl, rfl⟩
        refine ⟨_, rfl, .inl ⟨_, rfl, _, _, rfl, rfl, lit1, _, rfl, _, rfl, _, _, rfl, rfl, ?_⟩⟩
        refine ⟨[.num c1, .num _, .num _, .num _, .num _], dats_cons (dat_num.mpr rfl) (dats_cons (dat_num.mpr rfl) (dats_cons (dat_num.mpr rfl) (dats_cons (dat_num.mpr rfl) (dats_cons (dat_num.mpr rfl) dats_nil)))), by show 5 ≤ sizeLine; rw [sizeLine_eq]; omega, fun p H5 np a5 l5 => q p H5 (sm.free np) (sm.trans (a5.same np)) ?_⟩
        obtain ⟨vs, hvs, hd⟩ := l5
        have e := dats_nums (ns := [c1, _, _, _, _]) hd
        rw [e] at hvs
        exact ⟨_, _, _, _, _, hvs⟩
def spDraw : Sp := fun vs H Q _ => ∃ (src : Addr) (many : Nat), vs = [.ref src, .int many] ∧ SrcOk H src ∧ 1 ≤ many ∧ many ≤ 1000 ∧ ∀ (r : Nat) H', r < many → Sd src H H' → SrcOk H' src → Q (.int r) H'
theorem mod_nat {a : Int} {b : Nat} (h : 1 ≤ b) : ∃ r : Nat, a % (b : Int) = r ∧ r < b := by
  have h1 := Int.emod_nonneg a (b := (b : Int)) (by omega)
  have h2 := Int.emod_lt_of_pos a (b := (b : Int)) (by omega)
  exact ⟨(a % (b : Int)).toNat, by omega, by omega⟩
theorem cdiv_nat {i : Int} {b : Nat} (h : 1 ≤ b) (h2 : b ≤ 5000) : CDivW i (b : Int) := by
  refine ⟨by omega, ?_⟩
  have := Nat.log2_le_self b
  rw [Int.natAbs_natCast]
  omega
theorem ok_law_draw (B : Bi mg) (d : Df K mg "_law_draw" "_law_draw" s__law_draw ["_law_source_here", "_law_many"]) : Ok P w K mg base 1 "_law_draw" ["_law_source_here", "_law_many"] spDraw := by
  refine d.ok sc__law_draw (fun vs H Q E h => ?_) (fun f cdv A outer s H vs Q E hr h => ?_)
  · obtain ⟨src, many, rfl, _⟩ := h
    rfl
  · obtain ⟨src, many, rfl, ⟨c, r1, r2, k, n, hs⟩, m1, m2, q⟩ := h
    refine ⟨_, (pss_cons (ps_if (pt_cmpR op_gt (pe_ix ix_list (pv 0) pe_int (fun _ _ => rfl)) pe_int (nomark _))
        (pss_cons (pss 2 sc__law_draw.nd (pe_op op_mod (pe_callTy call_int1 (by rfl) B.int (by decide +kernel) (pa_cons (pe_ix ix_list (pv 0) pe_int (fun _ _ => rfl)) pa_nil)) (pv 1)))
        (pss_cons (ps_asg (pe_op op_fdivW (pe_ix ix_list (pv 0) pe_int (fun _ _ => rfl)) (pv 1)) (pg_sub (pv 0) pe_int set_list (by intro _; rfl)))
        (pss_one (ps_ret (pv 2)))))
        pss_nil)
      (pss_cons (ps_asg (pe_op op_add (pe_ix ix_list (pv 0) pe_int (fun _ _ => rfl)) pe_int) (pg_sub (pv 0) pe_int set_list (by intro _; rfl)))
      (pss_cons (pss 3 sc__law_draw.nd (pe_op op_mod (pe_callTy call_int1 (by rfl) B.int (by decide +kernel) (pa_cons (pe_op op_mul (pe_op op_add (pe_op op_add (pe_op op_add (pe_ix ix_list (pv 0) pe_int (fun _ _ => rfl)) (pe_ix ix_list (pv 0) pe_int (fun _ _ => rfl))) (pe_op op_mul pe_int (pe_ix ix_list (pv 0) pe_int (fun _ _ => rfl)))) (pe_op op_mul pe_int (pe_ix ix_list (pv 0) pe_int (fun _ _ => rfl)))) pe_int) pa_nil)) pe_int))
      (pss_cons (pss 3 sc__law_draw.nd (pe_op op_mod (pe_callTy call_int1 (by rfl) B.int (by decide +kernel) (pa_cons (pe_op op_mul (pv 3) (pe_op op_add (pe_op op_fdivW (pv 3) pe_int) pe_int)) pa_nil)) pe_int))
      (pss_cons (pss 3 sc__law_draw.nd (pe_op op_mod (pe_callTy call_int1 (by rfl) B.int (by decide +kernel) (pa_cons (pe_op op_mul (pv 3) (pe_op op_add (pe_op op_fdivW (pv 3) pe_int) pe_int)) pa_nil)) pe_int))
      (pss_one (ps_ret (pe_op op_mod (pe_callTy call_int1 (by rfl) B.int (by decide +kernel) (pa_cons (pe_op op_fdivW (pv 3) pe_int) pa_nil)) (pv 1))))))))), ?_⟩
    refine ⟨_, rfl, src, _, 0, .int c, rfl, rfl, SqL.of hs, rfl, _, _, rfl, rfl, _, rfl, ?_⟩
    by_cases hc : 0 < c
    · refine iteT' (decide_eq_true hc) ?_
      obtain ⟨r, e1, e2⟩ := mod_nat (a := c) m1
      refine ⟨_, rfl, src, _, 0, .int c, rfl, rfl, SqL.of hs, rfl, .inl ⟨_, rfl, _, rfl, _, _, rfl, rfl, by omega, ?_⟩⟩
      refine ⟨_, rfl, src, _, 0, .int c, rfl, rfl, SqL.of hs, rfl, _, rfl, _, _, rfl, rfl, cdiv_nat m1 (by omega), _, rfl, src, _, 0, 0, rfl, rfl, hs, rfl, _, rfl, ?_⟩
      show Q (.int (c % (many : Int))) _
      rw [e1]
      exact q r _ e2 sd_upd ⟨_, _, _, _, _, upd_same⟩
    · refine iteF' (decide_eq_false hc) ?_
      refine ⟨_, rfl, src, _, 4, .int n, rfl, rfl, SqL.of hs, rfl, _, _, rfl, rfl, _, rfl, src, _, 4, 4, rfl, rfl, hs, rfl, ?_⟩
      have hs2 : upd H src (.lst ([V.int c, V.int r1, V.int r2, V.int k, V.int n].set 4 (V.int (n + 1)))) src = some (.lst [V.int c, V.int r1, V.int r2, V.int k, V.int (n + 1)]) := upd_same
      have sd2 : Sd src H (upd H src (.lst ([V.int c, V.int r1, V.int r2, V.int k, V.int n].set 4 (V.int (n + 1))))) := sd_upd
      generalize hH2 : upd H src (.lst ([V.int c, V.int r1, V.int r2, V.int k, V.int n].set 4 (V.int (n + 1)))) = H2 at *
      refine ⟨_, rfl, src, _, 1, .int r1, rfl, rfl, SqL.of hs2, rfl, _, rfl, src, _, 2, .int r2, rfl, rfl, SqL.of hs2, rfl, _, _, rfl, rfl, _, rfl, src, _, 3, .int k, rfl, rfl, SqL.of hs2, rfl, _, _, rfl, rfl, .inl ⟨by decide, by decide⟩, _, _, rfl, rfl, _, rfl, src, _, 4, .int (n + 1), rfl, rfl, SqL.of hs2, rfl, _, _, rfl, rfl, .inl ⟨by decide, by decide⟩, _, _, rfl, rfl, _, _, rfl, rfl, .inr ⟨by decide, by decide⟩, .inl ⟨_, rfl, _, _, rfl, rfl, lit2, ?_⟩⟩
      have key : ∀ y : Int, Q (.int (y % (many : Int))) H2 := fun y => by
        obtain ⟨r, e1, e2⟩ := mod_nat (a := y) m1
        rw [e1]
        exact q r _ e2 sd2 ⟨_, _, _, _, _, hs2⟩
      have small : ∀ y : Int, CMul (y % 2147483647) (y % 2147483647 / 1009 + 69621) := fun y => .inl ⟨by omega, by omega⟩
      have small2 : ∀ y : Int, CMul (y % 2147483647) (y % 2147483647 / 2003 + 40692) := fun y => .inl ⟨by omega, by omega⟩
      refine ⟨_, rfl, _, rfl, _, _, rfl, rfl, cdiv_nat (b := 1009) (by omega) (by omega), _, _, rfl, rfl, _, _, rfl, rfl, small _, .inl ⟨_, rfl, _, _, rfl, rfl, lit2, ?_⟩⟩
      refine ⟨_, rfl, _, rfl, _, _, rfl, rfl, cdiv_nat (b := 2003) (by omega) (by omega), _, _, rfl, rfl, _, _, rfl, rfl, small2 _, .inl ⟨_, rfl, _, _, rfl, rfl, lit3, ?_⟩⟩
      exact ⟨_, rfl, _, _, rfl, rfl, cdiv_nat (b := 16) (by omega) (by omega), .inl ⟨_, rfl, _, rfl, _, _, rfl, rfl, by omega, key _⟩⟩
def menu : List Sz := [⟨2, 2, 1⟩, ⟨2, 1, 2⟩, ⟨1, 2, 2⟩, ⟨2, 2, 2⟩, ⟨3, 1, 1⟩, ⟨1, 3, 1⟩, ⟨3, 2, 1⟩, ⟨2, 3, 1⟩, ⟨1, 2, 3⟩, ⟨1, 1, 2⟩]
def spSizes : Sp := fun vs H Q _ => ∃ src : Addr, vs = [.ref src] ∧ SrcOk H src ∧ ∀ v H' (z : Sz), z ∈ menu → Sd src H H' → SrcOk H' src → Is H' z v → Q v H'
theorem ok_law_sizes (o__law_draw : Ok P w K mg base 1 "_law_draw" ["_law_source_here", "_law_many"] spDraw) (d : Df K mg "_law_sizes" "_law_sizes" s__law_sizes ["_law_source_here"]) : Ok P w K mg base 2 "_law_sizes" ["_law_source_here"] spSizes := by
  refine d.ok sc__law_sizes (fun vs H Q E h => ?_) (fun f cdv A outer s H vs Q E hr h => ?_)
  · obtain ⟨src, rfl, _⟩ := h
    rfl
  · obtain ⟨src, rfl, ok, q⟩ := h
    refine ⟨_, (pss_cons (pss 1 sc__law_sizes.nd (pe_tupD (pa_cons (pe_tupD (pa_cons pe_int (pa_cons pe_int (pa_cons pe_int pa_nil)))) (pa_cons (pe_tupD (pa_cons pe_int (pa_cons pe_int (pa_cons pe_int pa_nil)))) (pa_cons (pe_tupD (pa_cons pe_int (pa_cons pe_int (pa_cons pe_int pa_nil)))) (pa_cons (pe_tupD (pa_cons pe_int (pa_cons pe_int (pa_cons pe_int pa_nil)))) (pa_cons (pe_tupD (pa_cons pe_int (pa_cons pe_int (pa_cons pe_int pa_nil)))) (pa_cons (pe_tupD (pa_cons pe_int (pa_cons pe_int (pa_cons pe_int pa_nil)))) (pa_cons (pe_tupD (pa_cons pe_int (pa_cons pe_int (pa_cons pe_int pa_nil)))) (pa_cons (pe_tupD (pa_cons pe_int (pa_cons pe_int (pa_cons pe_int pa_nil)))) (pa_cons (pe_tupD (pa_cons pe_int (pa_cons pe_int (pa_cons pe_int pa_nil)))) (pa_cons (pe_tupD (pa_cons pe_int (pa_cons pe_int (pa_cons pe_int pa_nil)))) pa_nil))))))))))))
      (pss_one (ps_ret (pe_ix ix_dat (pv 1) (pe_fn o__law_draw hr (pa_cons (pv 0) (pa_cons pe_int pa_nil))) (fun _ _ => rfl))))), ?_⟩
    have three : 3 ≤ sizeLine := by rw [sizeLine_eq]; omega
    have t3 : ∀ (a b c : Int) (H : Hp), Dats H [.num a, .num b, .num c] [.int a, .int b, .int c] := fun a b c H => dats_cons (dat_num.mpr rfl) (dats_cons (dat_num.mpr rfl) (dats_cons (dat_num.mpr rfl) dats_nil))
    refine ⟨_, t3 2 2 1 _, three, fun w0 H0 s0 h0 => ⟨_, t3 2 1 2 _, three, fun w1 H1 s1 h1 => ⟨_, t3 1 2 2 _, three, fun w2 H2 s2 h2 => ⟨_, t3 2 2 2 _, three, fun w3 H3 s3 h3 => ⟨_, t3 3 1 1 _, three, fun w4 H4 s4 h4 => ?_⟩⟩⟩⟩⟩
    refine ⟨_, t3 1 3 1 _, three, fun w5 H5 s5 h5 => ⟨_, t3 3 2 1 _, three, fun w6 H6 s6 h6 => ⟨_, t3 2 3 1 _, three, fun w7 H7 s7 h7 => ⟨_, t3 1 2 3 _, three, fun w8 H8 s8 h8 => ⟨_, t3 1 1 2 _, three, fun w9 H9 s9 h9 => ?_⟩⟩⟩⟩⟩
    have s89 := s9
    have s79 := s8.trans s89
    have s69 := s7.trans s79
    have s59 := s6.trans s69
    have s49 := s5.trans s59
    have s39 := s4.trans s49
    have s29 := s3.trans s39
    have s19 := s2.trans s29
    have s09 := s1.trans s19
    refine ⟨menu.map enc, dats_cons (h0.same s09) (dats_cons (h1.same s19) (dats_cons (h2.same s29) (dats_cons (h3.same s39) (dats_cons (h4.same s49) (dats_cons (h5.same s59) (dats_cons (h6.same s69) (dats_cons (h7.same s79) (dats_cons (h8.same s89) (dats_cons h9 dats_nil))))))))), by show 10 ≤ sizeLine; rw [sizeLine_eq]; omega, fun tv H10 s10 ht => ?_⟩
    have sm : Same H H10 := (s0.trans s09).trans s10
    have ok10 := ok.same sm
    refine ⟨_, rfl, _, rfl, src, 10, rfl, ok10, by omega, by omega, fun r H11 hr sd11 ok11 => ?_⟩
    have hm : menu[r]? = some menu[r] := List.getElem?_eq_getElem hr
    refine ⟨_, r, enc menu[r], ht.sd sd11 ok10.ntup, rfl, by rw [List.getElem?_map, hm]; rfl, fun v hv => q v H11 menu[r] (List.getElem_mem hr) ((Same.sd sm).trans sd11) ok11 hv⟩
end
end Fd

/-! Lists of lists, made while draws are drawn. -/
namespace Fd
open PySem PySem.Spec PyProof.Rows L2
open Enc (enc)
theorem sd_at1 {z p : Addr} {H0 H H' : Hp} (s : Sd z H0 H) (a : At1 p H H') (n : H0 p = none) : Sd z H0 H' := fun b o e ne => by
  have hb : b ≠ p := fun q => by
    rw [q, n] at e
    cases e
  rw [a b hb]
  exact s b o e ne
theorem sd_free {z p : Addr} {H H' : Hp} (s : Sd z H H') (n : H' p = none) (ne : p ≠ z) : H p = none := by
  cases e : H p with
  | none => rfl
  | some o =>
    rw [s p o e ne] at n
    cases n
section
variable {α : Type} [Enc α]
/-- at al a list of lists, those at refs -/
structure RowsA (H : Hp) (al : Addr) (refs : List Addr) (xs : List (List α)) : Prop where
  at_ : H al = some (HO.lst (refs.map V.ref))
  len : refs.length = xs.length
  row : ∀ (j : Nat) (row : List α), xs[j]? = some row → ∃ l, refs[j]? = some l ∧ Ls H l row
theorem RowsA.sd {H H' : Hp} {al z : Addr} {refs : List Addr} {xs : List (List α)} (h : RowsA H al refs xs) (n1 : al ≠ z) (n2 : z ∉ refs) (s : Sd z H H') (nt : ∀ xs, H z ≠ some (.tup xs)) : RowsA H' al refs xs := by
  refine ⟨s _ _ h.at_ n1, h.len, fun j row hj => ?_⟩
  obtain ⟨l, e1, e2⟩ := h.row j row hj
  exact ⟨l, e1, lsd_sd e2 (fun q : l = z => n2 (q ▸ List.mem_of_getElem? e1)) s nt⟩
theorem RowsA.same {H H' : Hp} {al : Addr} {refs : List Addr} {xs : List (List α)} (h : RowsA H al refs xs) (s : Same H H') : RowsA H' al refs xs := by
  refine ⟨s _ _ h.at_, h.len, fun j row hj => ?_⟩
  obtain ⟨l, e1, e2⟩ := h.row j row hj
  exact ⟨l, e1, e2.same s⟩
theorem RowsA.nt {H : Hp} {al : Addr} {refs : List Addr} {xs : List (List α)} (h : RowsA H al refs xs) (ys : List V) : H al ≠ some (.tup ys) := fun e => by
  rw [h.at_] at e
  cases e
theorem RowsA.ne {H : Hp} {al p : Addr} {refs : List Addr} {xs : List (List α)} (h : RowsA H al refs xs) (n : H p = none) : p ≠ al ∧ p ∉ refs := by
  refine ⟨fun z => ?_, fun z => ?_⟩
  · rw [z, h.at_] at n
    cases n
  · obtain ⟨j, hj⟩ := List.getElem?_of_mem z
    have hlt := (List.getElem?_eq_some_iff.mp hj).1
    have hlt2 : j < xs.length := by rw [← h.len]; exact hlt
    obtain ⟨l, e1, e2⟩ := h.row j xs[j] (List.getElem?_eq_getElem hlt2)
    rw [hj] at e1
    cases e1
    exact e2.some n
theorem rowsA_nil {H : Hp} {al : Addr} (h : Lsd H al []) : RowsA H al [] ([] : List (List α)) := by
  obtain ⟨vs, e, d⟩ := h
  rw [dats_of_nil d] at e
  exact ⟨e, rfl, fun j row hj => by simp at hj⟩
theorem rowsA_snoc {H : Hp} {al l : Addr} {refs : List Addr} {xs : List (List α)} {row : List α} (h : RowsA H al refs xs) (ls : Ls H l row) (n1 : l ≠ al) (n2 : al ∉ refs) : RowsA (upd H al (.lst ((refs ++ [l]).map V.ref))) al (refs ++ [l]) (xs ++ [row]) := by
  refine ⟨upd_same, by simp [h.len], fun j r hj => ?_⟩
  by_cases hlt : j < xs.length
  · rw [List.getElem?_append_left hlt] at hj
    obtain ⟨l', e1, e2⟩ := h.row j r hj
    exact ⟨l', by rw [List.getElem?_append_left (by rw [h.len]; exact hlt)]; exact e1, lsd_sd e2 (fun q : l' = al => n2 (q ▸ List.mem_of_getElem? e1)) sd_upd h.nt⟩
  · rw [List.getElem?_append_right (by omega)] at hj
    have h0 : j - xs.length = 0 := by
      have := (List.getElem?_eq_some_iff.mp hj).1
      simp at this
      omega
    rw [h0] at hj
    cases hj
    exact ⟨l, by rw [List.getElem?_append_right (by rw [h.len]; omega), h.len, h0]; rfl, lsd_sd ls n1 sd_upd h.nt⟩
/-- one row is changed -/
theorem RowsA.set {H H' : Hp} {al l : Addr} {refs : List Addr} {xs : List (List α)} {row : List α} {k : Nat} (h : RowsA H al refs xs) (nd : refs.Nodup) (n2 : al ∉ refs) (hk : refs[k]? = some l) (a : At1 l H H') (ls : Ls H' l row) (nt : ∀ xs, H l ≠ some (.tup xs)) : RowsA H' al refs (xs.set k row) := by
  have nl : al ≠ l := fun z => n2 (z ▸ List.mem_of_getElem? hk)
  refine ⟨(a al nl).trans h.at_, by simp [h.len], fun j r hj => ?_⟩
  rw [List.getElem?_set] at hj
  by_cases e : k = j
  · subst e
    rw [if_pos rfl] at hj
    split at hj
    · cases hj
      exact ⟨l, hk, ls⟩
    · cases hj
  · rw [if_neg e] at hj
    obtain ⟨l', e1, e2⟩ := h.row j r hj
    refine ⟨l', e1, e2.keep (a l' fun z => e ?_) (a.tx nt)⟩
    subst z
    exact (List.getElem?_inj (List.getElem?_eq_some_iff.mp hk).1 nd).mp (hk.trans e1.symm)
end
/-- the moves' lists and the closings' are apart, and apart from the source -/
structure Apart (src am ac : Addr) (rm rc : List Addr) : Prop where
  ne : am ≠ ac
  a1 : am ∉ rm
  a2 : am ∉ rc
  a3 : ac ∉ rm
  a4 : ac ∉ rc
  nm : rm.Nodup
  nc : rc.Nodup
  dj : ∀ a ∈ rm, a ∉ rc
  s1 : src ≠ am
  s2 : src ≠ ac
  s3 : src ∉ rm
  s4 : src ∉ rc
theorem nodup_snoc {xs : List Addr} {x : Addr} (h : xs.Nodup) (n : x ∉ xs) : (xs ++ [x]).Nodup := by
  rw [List.nodup_append]
  refine ⟨h, by simp, fun a ha b hb => ?_⟩
  rw [List.mem_singleton] at hb
  subst hb
  exact fun e => n (e ▸ ha)
theorem not_snoc {xs : List Addr} {x y : Addr} (h : y ∉ xs) (n : x ≠ y) : y ∉ xs ++ [x] := by
  rw [List.mem_append, List.mem_singleton]
  rintro (z | z)
  · exact h z
  · exact n z.symm
theorem Apart.addM {src am ac l : Addr} {rm rc : List Addr} (h : Apart src am ac rm rc) (n1 : l ≠ src) (n2 : l ≠ am) (n3 : l ≠ ac) (n4 : l ∉ rm) (n5 : l ∉ rc) : Apart src am ac (rm ++ [l]) rc :=
  ⟨h.ne, not_snoc h.a1 n2, h.a2, not_snoc h.a3 n3, h.a4, nodup_snoc h.nm n4, h.nc, fun a ha => by
    rcases List.mem_append.mp ha with z | z
    · exact h.dj a z
    · rw [List.mem_singleton] at z
      exact z ▸ n5, h.s1, h.s2, not_snoc h.s3 n1, h.s4⟩
theorem Apart.addC {src am ac l : Addr} {rm rc : List Addr} (h : Apart src am ac rm rc) (n1 : l ≠ src) (n2 : l ≠ am) (n3 : l ≠ ac) (n4 : l ∉ rm) (n5 : l ∉ rc) : Apart src am ac rm (rc ++ [l]) :=
  ⟨h.ne, h.a1, not_snoc h.a2 n2, h.a3, not_snoc h.a4 n3, h.nm, nodup_snoc h.nc n5, fun a ha => not_snoc (h.dj a ha) fun z => n4 (z ▸ ha), h.s1, h.s2, h.s3, not_snoc h.s4 n1⟩
structure Gen (H0 H : Hp) (src am ac : Addr) (rm rc : List Addr) (mv : List (List Mv)) (cl : List (List Nat)) : Prop where
  sd : Sd src H0 H
  ok : SrcOk H src
  rowM : RowsA H am rm mv
  rowC : RowsA H ac rc cl
  ap : Apart src am ac rm rc
  f1 : H0 am = none
  f2 : H0 ac = none
  f3 : ∀ a ∈ rm, H0 a = none
  f4 : ∀ a ∈ rc, H0 a = none
section
variable {H0 H : Hp} {src am ac : Addr} {rm rc : List Addr} {mv : List (List Mv)} {cl : List (List Nat)}
theorem Gen.step {H' : Hp} (g : Gen H0 H src am ac rm rc mv cl) (s : Sd src H H') (ok : SrcOk H' src) : Gen H0 H' src am ac rm rc mv cl :=
  ⟨g.sd.trans s, ok, g.rowM.sd g.ap.s1.symm g.ap.s3 s g.ok.ntup, g.rowC.sd g.ap.s2.symm g.ap.s4 s g.ok.ntup, g.ap, g.f1, g.f2, g.f3, g.f4⟩
theorem Gen.addM {l : Addr} {row : List Mv} (g : Gen H0 H src am ac rm rc mv cl) (ls : Ls H l row) (n0 : H0 l = none) (n1 : l ≠ src) (n2 : l ≠ am) (n3 : l ≠ ac) (n4 : l ∉ rm) (n5 : l ∉ rc) :
    Gen H0 (upd H am (.lst ((rm ++ [l]).map V.ref))) src am ac (rm ++ [l]) rc (mv ++ [row]) cl :=
  ⟨sd_at1 g.sd at1_upd g.f1, g.ok.at (upd_ne g.ap.s1), rowsA_snoc g.rowM ls n2 g.ap.a1, g.rowC.sd g.ap.ne.symm g.ap.a2 sd_upd g.rowM.nt, g.ap.addM n1 n2 n3 n4 n5, g.f1, g.f2, fun a ha => by
    rcases List.mem_append.mp ha with z | z
    · exact g.f3 a z
    · rw [List.mem_singleton] at z
      exact z ▸ n0, g.f4⟩
theorem Gen.addC {l : Addr} {row : List Nat} (g : Gen H0 H src am ac rm rc mv cl) (ls : Ls H l row) (n0 : H0 l = none) (n1 : l ≠ src) (n2 : l ≠ am) (n3 : l ≠ ac) (n4 : l ∉ rm) (n5 : l ∉ rc) :
    Gen H0 (upd H ac (.lst ((rc ++ [l]).map V.ref))) src am ac rm (rc ++ [l]) mv (cl ++ [row]) :=
  ⟨sd_at1 g.sd at1_upd g.f2, g.ok.at (upd_ne g.ap.s2), g.rowM.sd g.ap.ne g.ap.a3 sd_upd g.rowC.nt, rowsA_snoc g.rowC ls n3 g.ap.a4, g.ap.addC n1 n2 n3 n4 n5, g.f1, g.f2, g.f3, fun a ha => by
    rcases List.mem_append.mp ha with z | z
    · exact g.f4 a z
    · rw [List.mem_singleton] at z
      exact z ▸ n0⟩
/-- a row of moves is changed -/
theorem Gen.setM {H' : Hp} {l : Addr} {row : List Mv} {k : Nat} (g : Gen H0 H src am ac rm rc mv cl) (hk : rm[k]? = some l) (a : At1 l H H') (ls : Ls H' l row) (nt : ∀ xs, H l ≠ some (.tup xs)) : Gen H0 H' src am ac rm rc (mv.set k row) cl := by
  have hl := List.mem_of_getElem? hk
  refine ⟨sd_at1 g.sd a (g.f3 l hl), g.ok.at (a src fun z => g.ap.s3 (z ▸ hl)), g.rowM.set g.ap.nm g.ap.a1 hk a ls nt, g.rowC.sd (fun z => g.ap.a3 (z ▸ hl)) (g.ap.dj l hl) a.sd nt, g.ap, g.f1, g.f2, g.f3, g.f4⟩
theorem Gen.setC {H' : Hp} {l : Addr} {row : List Nat} {k : Nat} (g : Gen H0 H src am ac rm rc mv cl) (hk : rc[k]? = some l) (a : At1 l H H') (ls : Ls H' l row) (nt : ∀ xs, H l ≠ some (.tup xs)) : Gen H0 H' src am ac rm rc mv (cl.set k row) := by
  have hl := List.mem_of_getElem? hk
  refine ⟨sd_at1 g.sd a (g.f4 l hl), g.ok.at (a src fun z => g.ap.s4 (z ▸ hl)), g.rowM.sd (fun z => g.ap.a2 (z ▸ hl)) (fun z => g.ap.dj l z hl) a.sd nt, g.rowC.set g.ap.nc g.ap.a4 hk a ls nt, g.ap, g.f1, g.f2, g.f3, g.f4⟩
theorem Gen.new {l : Addr} (g : Gen H0 H src am ac rm rc mv cl) (n : H l = none) : l ≠ src ∧ l ≠ am ∧ l ≠ ac ∧ l ∉ rm ∧ l ∉ rc ∧ H0 l = none := by
  have h1 : l ≠ src := fun z => g.ok.some (z ▸ n)
  obtain ⟨h2, h4⟩ := g.rowM.ne n
  obtain ⟨h3, h5⟩ := g.rowC.ne n
  exact ⟨h1, h2, h3, h4, h5, sd_free g.sd n h1⟩
end
end Fd

/-! Rows of moves and closings, drawn. -/
namespace Fd
open PySem PySem.Spec PyProof.Rows L2
open Enc (enc)
abbrev s__law_sure_rows : Stmt := topS 49
theorem sc__law_sure_rows : FnScope ["_law_source_here", "_law_sizes_here", "_law_many", "_law_moves", "_law_closings", "_law_k", "_law_row", "_law_slip"] ["_law_source_here", "_law_sizes_here", "_law_many"] (defScope s__law_sure_rows) := ⟨rfl, rfl, rfl, by decide +kernel, rfl, by decide +kernel, by decide +kernel⟩
abbrev s__law_doubled : Stmt := topS 50
theorem sc__law_doubled : FnScope ["_law_source_here", "_law_moves", "_law_closings", "_law_many", "_law_found", "_law_k", "_law_row", "_law_move", "_law_pick"] ["_law_source_here", "_law_moves", "_law_closings"] (defScope s__law_doubled) := ⟨rfl, rfl, rfl, by decide +kernel, rfl, by decide +kernel, by decide +kernel⟩
section
variable {P : Program} {w : World} {K : PySem.W.Frag} {mg : Str → Option Value} {base : Heap}
def spSureRows : Sp := fun vs H Q _ => ∃ (src : Addr) (zv : V) (z : Sz) (many : Nat), vs = [.ref src, zv, .int many] ∧ SrcOk H src ∧ Is H z zv ∧ SzOk z ∧ 1 ≤ many ∧ many ≤ 6 ∧
  ∀ r H' am ac rm rc mv cl, H' r = some (.lst [.ref am, .ref ac]) → Gen H H' src am ac rm rc mv cl → mv.length = many → cl.length = many → (∀ row ∈ mv, row.length = z.s ∧ ∀ m ∈ row, MvOk z many m) → (∀ row ∈ cl, row.length = 1 ∧ ∀ l ∈ row, l < z.m) → Q (.ref r) H'
theorem ok_law_sure_rows (B : Bi mg) (o__law_draw : Ok P w K mg base 1 "_law_draw" ["_law_source_here", "_law_many"] spDraw) (d : Df K mg "_law_sure_rows" "_law_sure_rows" s__law_sure_rows ["_law_source_here", "_law_sizes_here", "_law_many"]) :
    Ok P w K mg base 2 "_law_sure_rows" ["_law_source_here", "_law_sizes_here", "_law_many"] spSureRows := by
  refine d.ok sc__law_sure_rows (fun vs H Q E h => ?_) (fun f cdv A outer s H vs Q E hr h => ?_)
  · obtain ⟨src, zv, z, many, rfl, _⟩ := h
    rfl
  · obtain ⟨src, zv, z, many, rfl, ok, hz, zok, m1, m6, q⟩ := h
    refine ⟨_, (pss_cons (pss 3 sc__law_sure_rows.nd (pe_lstD pa_nil))
      (pss_cons (pss 4 sc__law_sure_rows.nd (pe_lstD pa_nil))
      (pss_cons (ps_for PassesOwn.never rfl (pi_range1 rfl B.range (pa_cons (pv 2) pa_nil)) (pgn 5 sc__law_sure_rows.nd)
        (pss_cons (pss 6 sc__law_sure_rows.nd (pe_lstD pa_nil))
        (pss_cons (ps_for PassesOwn.never rfl (pi_range1 rfl B.range (pa_cons (pe_ix ix_dat (pv 1) pe_int (fun _ _ => rfl)) pa_nil)) (pgn 7 sc__law_sure_rows.nd)
          (pss_one (ps_expr (pe_bm PySem.F.plainAttrs_list PySem.F.slot_list_append PySem.F.type_list_append mt_appD (pv 6) (pa_cons (pe_tupD (pa_cons (pv 7) (pa_cons (pe_fn o__law_draw hr (pa_cons (pv 0) (pa_cons (pe_ix ix_dat (pv 1) pe_int (fun _ _ => rfl)) pa_nil))) (pa_cons (pe_fn o__law_draw hr (pa_cons (pv 0) (pa_cons (pe_ix ix_dat (pv 1) pe_int (fun _ _ => rfl)) pa_nil))) (pa_cons (pe_fn o__law_draw hr (pa_cons (pv 0) (pa_cons (pv 2) pa_nil))) pa_nil))))) pa_nil)))))
        (pss_cons (ps_expr (pe_bm PySem.F.plainAttrs_list PySem.F.slot_list_append PySem.F.type_list_append mt_append (pv 3) (pa_cons (pv 6) pa_nil)))
        (pss_one (ps_expr (pe_bm PySem.F.plainAttrs_list PySem.F.slot_list_append PySem.F.type_list_append mt_append (pv 4) (pa_cons (pe_lstD (pa_cons (pe_fn o__law_draw hr (pa_cons (pv 0) (pa_cons (pe_ix ix_dat (pv 1) pe_int (fun _ _ => rfl)) pa_nil))) pa_nil)) pa_nil))))))))
      (pss_one (ps_ret (pe_lst (pa_cons (pv 3) (pa_cons (pv 4) pa_nil)))))))), ?_⟩
    obtain ⟨z1, z2⟩ := zok.s
    obtain ⟨z3, z4⟩ := zok.a
    obtain ⟨z5, z6⟩ := zok.m
    refine ⟨[], dats_nil, Nat.zero_le _, fun am H1 nam a1 l1 => ⟨[], dats_nil, Nat.zero_le _, fun ac H2 nac a2 l2 => ?_⟩⟩
    have s1 : Same H H1 := a1.same nam
    have s2 : Same H1 H2 := a2.same nac
    have nea : am ≠ ac := fun e => l1.some (e ▸ nac)
    have nsm : src ≠ am := fun e => ok.some (e ▸ nam)
    have nsc : src ≠ ac := fun e => (ok.same s1).some (e ▸ nac)
    have g0 : Gen H H2 src am ac [] [] [] [] := ⟨Same.sd (s1.trans s2), (ok.same s1).same s2, rowsA_nil (l1.same s2), rowsA_nil l2, ⟨nea, by simp, by simp, by simp, by simp, List.nodup_nil, List.nodup_nil, fun a h => (nomatch h), nsm, nsc, by simp, by simp⟩, nam, s1.free nac, fun a h => (nomatch h), fun a h => (nomatch h)⟩
    refine ⟨_, rfl, many, rfl, by omega, by omega, ?_⟩
    rw [Int.toNat_natCast]
    refine for_range (lo := 0) (n := many) (fun i σ H' => (∃ u5 u6 u7 : Option V, σ = [some (.ref src), some zv, some (.int many), some (.ref am), some (.ref ac), u5, u6, u7]) ∧ ∃ rm rc mv cl, Gen H H' src am ac rm rc mv cl ∧ mv.length = i ∧ cl.length = i ∧ (∀ row ∈ mv, row.length = z.s ∧ ∀ m ∈ row, MvOk z many m) ∧ ∀ row ∈ cl, row.length = 1 ∧ ∀ l ∈ row, l < z.m)
      ⟨⟨none, none, none, rfl⟩, [], [], [], [], g0, rfl, rfl, fun row h => (nomatch h), fun row h => (nomatch h)⟩ ?_ ?_
    · rintro i σ H3 hi ⟨⟨u5, u6, u7, rfl⟩, rm, rc, mv, cl, g3, ml, cll, mok, cok⟩
      refine ⟨[], dats_nil, Nat.zero_le _, fun rl H4 nrl a4 l4 => ?_⟩
      obtain ⟨n1, n2, n3, n4, n5, n0⟩ := g3.new nrl
      have s34 : Same H3 H4 := a4.same nrl
      have hz3 : Is H3 z zv := hz.sd g3.sd ok.ntup
      refine ⟨_, rfl, _, 0, _, hz3.same s34, rfl, rfl, fun v hv => ?_⟩
      rw [dat_num] at hv
      subst hv
      refine ⟨z.s, rfl, by omega, by omega, ?_⟩
      rw [Int.toNat_natCast]
      refine for_range (lo := 0) (n := z.s) (fun j σ H' => (∃ u7 : Option V, σ = [some (.ref src), some zv, some (.int many), some (.ref am), some (.ref ac), some (.int (0 + (i : Int))), some (.ref rl), u7]) ∧ Sd src H3 H' ∧ SrcOk H' src ∧ ∃ row : List Mv, Ls H' rl row ∧ row.length = j ∧ ∀ m ∈ row, MvOk z many m)
        ⟨⟨u7, rfl⟩, Same.sd s34, g3.ok.same s34, [], l4, rfl, fun m h => (nomatch h)⟩ ?_ ?_
      · rintro j σ H5 hj ⟨⟨u7, rfl⟩, sd5, ok5, row, lr, rl5, rok⟩
        have hz5 : Is H5 z zv := hz3.sd sd5 g3.ok.ntup
        obtain ⟨rv, hrv⟩ := lsd_nd lr
        refine ⟨_, rfl, .inl ⟨rfl, _, SqL.of hrv⟩, _, rfl, _, rfl, _, rfl, _, 1, _, hz5, rfl, rfl, fun v1 h1 => ?_⟩
        rw [dat_num] at h1
        subst h1
        refine ⟨src, z.a, rfl, ok5, z3, by omega, fun ra H6 ra1 sd6 ok6 => ?_⟩
        have hz6 : Is H6 z zv := hz5.sd sd6 ok5.ntup
        refine ⟨_, rfl, _, rfl, _, 2, _, hz6, rfl, rfl, fun v2 h2 => ?_⟩
        rw [dat_num] at h2
        subst h2
        refine ⟨src, z.m, rfl, ok6, z5, by omega, fun rb H7 rb1 sd7 ok7 => ?_⟩
        refine ⟨_, rfl, _, rfl, src, many, rfl, ok7, m1, by omega, fun rg H8 rg1 sd8 ok8 => ?_⟩
        have sd58 : Sd src H5 H8 := (sd6.trans sd7).trans sd8
        refine ⟨[.num j, .num ra, .num rb, .num rg], dats_cons (dat_num.mpr (by rw [Int.zero_add])) (dats_cons (dat_num.mpr rfl) (dats_cons (dat_num.mpr rfl) (dats_cons (dat_num.mpr rfl) dats_nil))), by show 4 ≤ sizeLine; rw [sizeLine_eq]; omega, fun mvv H9 s9 h9 => ?_⟩
        have lr9 : Ls H9 rl row := (lsd_sd lr n1 sd58 ok5.ntup).same s9
        refine ⟨rl, _, enc (⟨j, ra, rb, rg⟩ : Mv), mvv, rfl, rfl, lr9, h9, by rw [List.length_map, sizeLine_eq]; omega, fun H10 a10 l10 => ⟨⟨_, rfl⟩, ?_, ?_, row ++ [⟨j, ra, rb, rg⟩], lsd_app (ys := [(⟨j, ra, rb, rg⟩ : Mv)]) l10, by rw [List.length_append, rl5]; rfl, fun m hm => ?_⟩⟩
        · exact sd_at1 ((sd5.trans sd58).trans (Same.sd s9)) a10 nrl
        · exact (ok8.same s9).at (a10 src fun e => n1 e.symm)
        · rcases List.mem_append.mp hm with h | h
          · exact rok m h
          · rw [List.mem_singleton] at h
            subst h
            exact ⟨hj, ra1, rb1, rg1⟩
      · rintro σ H5 ⟨⟨u7, rfl⟩, sd5, ok5, row, lr, rl5, rok⟩
        have g5 := g3.step sd5 ok5
        have rl6 : rm.length ≤ 6 := by
          rw [g3.rowM.len]
          omega
        have rl7 : rc.length ≤ 6 := by
          rw [g3.rowC.len]
          omega
        refine ⟨_, rfl, .inl ⟨rfl, _, SqL.of g5.rowM.at_⟩, _, rfl, am, _, .ref rl, rfl, rfl, g5.rowM.at_, by rw [List.length_map, sizeLine_eq]; omega, ?_⟩
        have g6 := g5.addM lr n0 n1 n2 n3 n4 n5
        rw [List.map_append] at g6
        have g6 : Gen H (upd H5 am (.lst (rm.map V.ref ++ [V.ref rl]))) src am ac (rm ++ [rl]) rc (mv ++ [row]) cl := g6
        have hz6 : Is (upd H5 am (.lst (rm.map V.ref ++ [V.ref rl]))) z zv := hz.sd g6.sd ok.ntup
        generalize upd H5 am (.lst (rm.map V.ref ++ [V.ref rl])) = H6 at *
        refine ⟨_, rfl, .inl ⟨rfl, _, SqL.of g6.rowC.at_⟩, _, rfl, _, rfl, _, 2, _, hz6, rfl, rfl, fun v1 h1 => ?_⟩
        rw [dat_num] at h1
        subst h1
        refine ⟨src, z.m, rfl, g6.ok, z5, by omega, fun r7 H7 r71 sd7 ok7 => ?_⟩
        have g7 := g6.step sd7 ok7
        refine ⟨[.num r7], dats_cons (dat_num.mpr rfl) dats_nil, by show 1 ≤ sizeLine; rw [sizeLine_eq]; omega, fun cn H8 ncn a8 l8 => ?_⟩
        obtain ⟨k1, k2, k3, k4, k5, k0⟩ := g7.new ncn
        have g8 := g7.step (Same.sd (a8.same ncn)) (ok7.same (a8.same ncn))
        have g9 := g8.addC (row := [r7]) l8 k0 k1 k2 k3 k4 k5
        rw [List.map_append] at g9
        refine ⟨ac, _, .ref cn, rfl, rfl, g8.rowC.at_, by rw [List.length_map, sizeLine_eq]; omega, ⟨_, _, _, rfl⟩, _, _, _, _, g9, by rw [List.length_append, ml]; rfl, by rw [List.length_append, cll]; rfl, fun rw' hrw => ?_, fun rw' hrw => ?_⟩
        · rcases List.mem_append.mp hrw with h | h
          · exact mok rw' h
          · rw [List.mem_singleton] at h
            subst h
            exact ⟨rl5, rok⟩
        · rcases List.mem_append.mp hrw with h | h
          · exact cok rw' h
          · rw [List.mem_singleton] at h
            subst h
            refine ⟨rfl, fun l hl => ?_⟩
            rw [List.mem_singleton] at hl
            exact hl ▸ r71
    · rintro σ H3 ⟨⟨u5, u6, u7, rfl⟩, rm, rc, mv, cl, g3, ml, cll, mok, cok⟩
      refine ⟨_, rfl, _, rfl, by show 2 ≤ sizeLine; rw [sizeLine_eq]; omega, fun p np => ?_⟩
      have sn : Same H3 (upd H3 p (.lst [.ref am, .ref ac])) := same_new np
      exact q p _ am ac rm rc mv cl upd_same (g3.step (Same.sd sn) (g3.ok.same sn)) ml cll mok cok
def spDoubled : Sp := fun vs H Q _ => ∃ (src am ac : Addr) (rm rc : List Addr) (mv : List (List Mv)) (cl : List (List Nat)) (z : Sz), vs = [.ref src, .ref am, .ref ac] ∧ SrcOk H src ∧ RowsA H am rm mv ∧ RowsA H ac rc cl ∧ src ≠ am ∧ src ≠ ac ∧ src ∉ rm ∧ src ∉ rc ∧ 1 ≤ mv.length ∧ mv.length ≤ 3 ∧ cl.length ≤ 3 ∧
  (∀ row ∈ mv, row.length ≤ 3 ∧ ∀ m ∈ row, MvOk z mv.length m) ∧
  ∀ r H' fl rf cl2 mv2, H' r = some (.lst [.ref fl, .ref cl2]) → Sd src H H' → SrcOk H' src → RowsA H' fl rf mv2 → RowsA H' cl2 (rc ++ rc) (cl ++ cl) → mv2.length = 2 * mv.length → (∀ row ∈ mv2, row.length ≤ 6 ∧ ∀ m ∈ row, MvOk z (2 * mv.length) m) → Q (.ref r) H'
theorem rowsA_lsd {α : Type} [Enc α] {H : Hp} {al : Addr} {refs : List Addr} {xs : List (List α)} (h : RowsA H al refs xs) : (refs.map V.ref).length = xs.length := by
  rw [List.length_map, h.len]
theorem rowsA_two {α : Type} [Enc α] {H : Hp} {al bl : Addr} {refs : List Addr} {xs : List (List α)} (h : RowsA H al refs xs) (hb : H bl = some (.lst (refs.map V.ref ++ refs.map V.ref))) : RowsA H bl (refs ++ refs) (xs ++ xs) := by
  refine ⟨by rw [List.map_append]; exact hb, by simp [h.len], fun j row hj => ?_⟩
  by_cases hlt : j < xs.length
  · rw [List.getElem?_append_left hlt] at hj
    obtain ⟨l, e1, e2⟩ := h.row j row hj
    exact ⟨l, by rw [List.getElem?_append_left (by rw [h.len]; exact hlt)]; exact e1, e2⟩
  · rw [List.getElem?_append_right (by omega)] at hj
    obtain ⟨l, e1, e2⟩ := h.row _ row hj
    exact ⟨l, by rw [List.getElem?_append_right (by rw [h.len]; omega), h.len]; exact e1, e2⟩
end
end Fd

/-! Doubled offices. -/
namespace Fd
open PySem PySem.Spec PyProof.Rows L2
open Enc (enc)
section
variable {P : Program} {w : World} {K : PySem.W.Frag} {mg : Str → Option Value} {base : Heap}
theorem ok_law_doubled (B : Bi mg) (o__law_draw : Ok P w K mg base 1 "_law_draw" ["_law_source_here", "_law_many"] spDraw) (d : Df K mg "_law_doubled" "_law_doubled" s__law_doubled ["_law_source_here", "_law_moves", "_law_closings"]) :
    Ok P w K mg base 2 "_law_doubled" ["_law_source_here", "_law_moves", "_law_closings"] spDoubled := by
  refine d.ok sc__law_doubled (fun vs H Q E h => ?_) (fun f cdv A outer s H vs Q E hr h => ?_)
  · obtain ⟨src, am, ac, rm, rc, mv, cl, z, rfl, _⟩ := h
    rfl
  · obtain ⟨src, am, ac, rm, rc, mv, cl, z, rfl, ok, hM, hC, nm, nc, nrm, nrc, m1, m3, c3, mok, q⟩ := h
    refine ⟨_, (pss_cons (pss 3 sc__law_doubled.nd (pe_callB call_len_seq (by rfl) B.len (by decide +kernel) (pa_cons (pv 1) pa_nil)))
      (pss_cons (pss 4 sc__law_doubled.nd (pe_lstD pa_nil))
      (pss_cons (ps_for PassesOwn.never rfl (pi_range1 rfl B.range (pa_cons (pe_op op_mul pe_int (pv 3)) pa_nil)) (pgn 5 sc__law_doubled.nd)
        (pss_cons (pss 6 sc__law_doubled.nd (pe_lstD pa_nil))
        (pss_cons (ps_for PassesOwn.never rfl (pi_list (pe_ix ix_list (pv 1) (pe_op op_mod (pe_callTy call_int1 (by rfl) B.int (by decide +kernel) (pa_cons (pv 5) pa_nil)) (pv 3)) (fun _ _ => rfl))) (pgn 7 sc__law_doubled.nd)
          (pss_cons (pss 8 sc__law_doubled.nd (pe_fn o__law_draw hr (pa_cons (pv 0) (pa_cons pe_int pa_nil))))
          (pss_cons (ps_if (pt_cmpR op_ne (pv 8) pe_int (nomark _))
            (pss_one (ps_expr (pe_bm PySem.F.plainAttrs_list PySem.F.slot_list_append PySem.F.type_list_append mt_appD (pv 6) (pa_cons (pv 7) pa_nil))))
            pss_nil)
          (pss_one (ps_if (pt_cmpR op_ne (pv 8) pe_int (nomark _))
            (pss_one (ps_expr (pe_bm PySem.F.plainAttrs_list PySem.F.slot_list_append PySem.F.type_list_append mt_appD (pv 6) (pa_cons (pe_op op_catD (pe_slice sl_dat (pv 7) po_none (po_some pe_int)) (pe_tupD (pa_cons (pe_op op_add (pe_ix ix_dat (pv 7) pe_int (fun _ _ => rfl)) (pv 3)) pa_nil))) pa_nil))))
            pss_nil)))))
        (pss_one (ps_expr (pe_bm PySem.F.plainAttrs_list PySem.F.slot_list_append PySem.F.type_list_append mt_append (pv 4) (pa_cons (pv 6) pa_nil)))))))
      (pss_one (ps_ret (pe_lst (pa_cons (pv 4) (pa_cons (pe_op op_cat (pv 2) (pv 2)) pa_nil)))))))), ?_⟩
    refine ⟨_, rfl, am, _, rfl, .inl (SqL.of hM.at_), ?_⟩
    refine ⟨[], dats_nil, Nat.zero_le _, fun fl H2 nfl a2 l2 => ?_⟩
    have s2 : Same H H2 := a2.same nfl
    have nfs : fl ≠ src := fun e => ok.some (e ▸ nfl)
    have len : ((rm.map V.ref).length : Int) = (mv.length : Int) := by rw [rowsA_lsd hM]
    refine ⟨_, rfl, _, _, rfl, rfl, .inl ⟨by decide, by decide⟩, ((2 * mv.length : Nat) : Int), ?_, by omega, by omega, ?_⟩
    · rw [len]
      simp
    rw [Int.toNat_natCast, rowsA_lsd hM]
    refine for_range (lo := 0) (n := 2 * mv.length) (fun i σ H' => (∃ u5 u6 u7 u8 : Option V, σ = [some (.ref src), some (.ref am), some (.ref ac), some (.int mv.length), some (.ref fl), u5, u6, u7, u8]) ∧ Sd src H H' ∧ SrcOk H' src ∧ ∃ rf mv2, RowsA H' fl rf mv2 ∧ fl ∉ rf ∧ src ∉ rf ∧ mv2.length = i ∧ ∀ row ∈ mv2, row.length ≤ 6 ∧ ∀ m ∈ row, MvOk z (2 * mv.length) m)
      ⟨⟨none, none, none, none, rfl⟩, Same.sd s2, ok.same s2, [], [], rowsA_nil l2, by simp, by simp, rfl, fun row h => (nomatch h)⟩ ?_ ?_
    · rintro i σ H3 hi ⟨⟨u5, u6, u7, u8, rfl⟩, sd3, ok3, rf, mv2, hF, nff, nsf, fl2, fok⟩
      refine ⟨[], dats_nil, Nat.zero_le _, fun rl H4 nrl a4 l4 => ?_⟩
      have s34 : Same H3 H4 := a4.same nrl
      have n1 : rl ≠ src := fun e => ok3.some (e ▸ nrl)
      obtain ⟨n2, n3⟩ := hF.ne nrl
      have n0 : H rl = none := sd_free sd3 nrl n1
      have hM3 := hM.sd nm.symm nrm sd3 ok.ntup
      obtain ⟨r, e1, e2⟩ := mod_nat (a := 0 + (i : Int)) m1
      obtain ⟨l, hl1, hl2⟩ := hM3.row r mv[r] (List.getElem?_eq_getElem e2)
      have hin : mv[r] ∈ mv := List.getElem_mem e2
      generalize mv[r] = row0 at hl2 hin
      obtain ⟨ok0, okm⟩ := mok row0 hin
      have nls : l ≠ src := fun e => nrm (e ▸ List.mem_of_getElem? hl1)
      obtain ⟨xs, hx, hxs⟩ := id hl2
      have hxl := dats_len hxs
      rw [List.length_map] at hxl
      have nrl2 : l ≠ rl := fun e => hl2.some (e ▸ nrl)
      refine ⟨_, rfl, _, rfl, .inl ⟨_, rfl, _, rfl, _, _, rfl, rfl, by omega, am, _, _, _, rfl, rfl, SqL.of (hM3.same s34).at_, by rw [e1]; exact atI_nat (by rw [List.getElem?_map, hl1]; rfl), ?_⟩⟩
      refine ⟨l, rfl, ⟨xs, SqL.of (s34 _ _ hx)⟩, for_list (xs := xs) (fun j σ H' => (∃ u7 u8 : Option V, σ = [some (.ref src), some (.ref am), some (.ref ac), some (.int mv.length), some (.ref fl), some (.int (0 + (i : Int))), some (.ref rl), u7, u8]) ∧ Sd src H3 H' ∧ SrcOk H' src ∧ ∃ row : List Mv, Ls H' rl row ∧ row.length ≤ 2 * j ∧ ∀ m ∈ row, MvOk z (2 * mv.length) m)
        ⟨⟨u7, u8, rfl⟩, Same.sd s34, ok3.same s34, [], l4, Nat.zero_le _, fun m h => (nomatch h)⟩ (fun j σ H' _ p => SqL.of (p.2.1 _ _ hx nls)) ?_ ?_⟩
      · rintro j y σ H5 hy ⟨⟨u7, u8, rfl⟩, sd5, ok5, row, lr, rl5, rok⟩
        obtain ⟨dm, k1, k2⟩ := dats_getV hxs hy
        rw [List.getElem?_map] at k1
        obtain ⟨m, hm, rfl⟩ := Option.map_eq_some_iff.mp k1
        have hj := (List.getElem?_eq_some_iff.mp hm).1
        obtain ⟨o1, o2, o3, o4⟩ := okm m (List.mem_of_getElem? hm)
        have im5 : Is H5 m y := k2.sd sd5 ok3.ntup
        refine ⟨_, rfl, src, 3, rfl, ok5, by omega, by omega, fun pk H6 hpk sd6 ok6 => ?_⟩
        have im6 : Is H6 m y := im5.sd sd6 ok5.ntup
        have lr6 : Ls H6 rl row := lsd_sd lr n1 sd6 ok5.ntup
        have sd36 := sd5.trans sd6
        -- the move itself
        have own : ∀ {H7 : Hp}, At1 rl H6 H7 → Lsd H7 rl (row.map enc ++ [enc m]) → Sd src H3 H7 ∧ SrcOk H7 src ∧ Ls H7 rl (row ++ [m]) ∧ Is H7 m y := fun a7 l7 => ⟨sd_at1 sd36 a7 nrl, ok6.at (a7 src fun e => n1 e.symm), lsd_app (ys := [m]) l7, Dat.mono (a7.tx lr6.ntup) _ _ im6⟩
        obtain ⟨rv, hrv⟩ := lsd_nd lr6
        have mok1 : MvOk z (2 * mv.length) m := ⟨o1, o2, o3, by omega⟩
        have mok2 : MvOk z (2 * mv.length) ⟨m.s, m.a, m.m, m.g + mv.length⟩ := ⟨o1, o2, o3, by show m.g + mv.length < _; omega⟩
        have add : ∀ {row : List Mv} {x : Mv}, (∀ m ∈ row, MvOk z (2 * mv.length) m) → MvOk z (2 * mv.length) x → ∀ m ∈ row ++ [x], MvOk z (2 * mv.length) m := fun h hx m hm => by
          rcases List.mem_append.mp hm with h' | h'
          · exact h m h'
          · rw [List.mem_singleton] at h'
            exact h' ▸ hx
        have hpk3 : pk = 0 ∨ pk = 1 ∨ pk = 2 := by omega
        rcases hpk3 with rfl | rfl | rfl
        · refine ⟨_, rfl, rfl, _, rfl, iteT' (by decide) ⟨_, rfl, .inl ⟨rfl, _, SqL.of hrv⟩, _, rfl, rl, _, enc m, y, rfl, rfl, lr6, im6, by rw [List.length_map, sizeLine_eq]; omega, fun H7 a7 l7 => ?_⟩⟩
          obtain ⟨c1, c2, c3, c4⟩ := own a7 l7
          exact ⟨_, rfl, rfl, _, rfl, iteF' (by decide) ⟨⟨_, _, rfl⟩, c1, c2, _, c3, by rw [List.length_append, List.length_singleton]; omega, add rok mok1⟩⟩
        · refine ⟨_, rfl, rfl, _, rfl, iteF' (by decide) ⟨_, rfl, rfl, _, rfl, iteT' (by decide) ⟨_, rfl, .inl ⟨rfl, _, SqL.of hrv⟩, _, rfl, _, rfl, _, 3, im6, rfl, rfl, fun v4 H7 s7 h7 => ?_⟩⟩⟩
          refine ⟨_, rfl, _, 3, _, im6.same s7, rfl, rfl, fun v5 h5 => ?_⟩
          rw [dat_num] at h5
          subst h5
          refine ⟨_, rfl, _, _, rfl, rfl, [.num ((m.g + mv.length : Nat) : Int)], dats_cons (dat_num.mpr (by rw [Int.natCast_add])) dats_nil, by show 1 ≤ sizeLine; rw [sizeLine_eq]; omega, fun v6 H8 s8 h8 => ?_⟩
          refine ⟨_, _, h7.same s8, h8, by show 3 + 1 ≤ sizeLine; rw [sizeLine_eq]; omega, fun v9 H9 s9 h9 => ?_⟩
          have s69 : Same H6 H9 := (s7.trans s8).trans s9
          have lr9 := lr6.same s69
          refine ⟨rl, _, enc (⟨m.s, m.a, m.m, m.g + mv.length⟩ : Mv), v9, rfl, rfl, lr9, h9, by rw [List.length_map, sizeLine_eq]; omega, fun H10 a10 l10 => ?_⟩
          exact ⟨⟨_, _, rfl⟩, sd_at1 (sd36.trans (Same.sd s69)) a10 nrl, (ok6.same s69).at (a10 src fun e => n1 e.symm), _, lsd_app (ys := [(⟨m.s, m.a, m.m, m.g + mv.length⟩ : Mv)]) l10, by rw [List.length_append, List.length_singleton]; omega, add rok mok2⟩
        · refine ⟨_, rfl, rfl, _, rfl, iteT' (by decide) ⟨_, rfl, .inl ⟨rfl, _, SqL.of hrv⟩, _, rfl, rl, _, enc m, y, rfl, rfl, lr6, im6, by rw [List.length_map, sizeLine_eq]; omega, fun H6' a6' l6' => ?_⟩⟩
          obtain ⟨c1, c2, c3, c4⟩ := own a6' l6'
          obtain ⟨rv', hrv'⟩ := lsd_nd c3
          refine ⟨_, rfl, rfl, _, rfl, iteT' (by decide) ⟨_, rfl, .inl ⟨rfl, _, SqL.of hrv'⟩, _, rfl, _, rfl, _, 3, c4, rfl, rfl, fun v4 H7 s7 h7 => ?_⟩⟩
          refine ⟨_, rfl, _, 3, _, c4.same s7, rfl, rfl, fun v5 h5 => ?_⟩
          rw [dat_num] at h5
          subst h5
          refine ⟨_, rfl, _, _, rfl, rfl, [.num ((m.g + mv.length : Nat) : Int)], dats_cons (dat_num.mpr (by rw [Int.natCast_add])) dats_nil, by show 1 ≤ sizeLine; rw [sizeLine_eq]; omega, fun v6 H8 s8 h8 => ?_⟩
          refine ⟨_, _, h7.same s8, h8, by show 3 + 1 ≤ sizeLine; rw [sizeLine_eq]; omega, fun v9 H9 s9 h9 => ?_⟩
          have s69 := (s7.trans s8).trans s9
          have lr9 := c3.same s69
          refine ⟨rl, _, enc (⟨m.s, m.a, m.m, m.g + mv.length⟩ : Mv), v9, rfl, rfl, lr9, h9, by rw [List.length_map, List.length_append, List.length_singleton, sizeLine_eq]; omega, fun H10 a10 l10 => ?_⟩
          exact ⟨⟨_, _, rfl⟩, sd_at1 (c1.trans (Same.sd s69)) a10 nrl, (c2.same s69).at (a10 src fun e => n1 e.symm), _, lsd_app (ys := [(⟨m.s, m.a, m.m, m.g + mv.length⟩ : Mv)]) l10, by rw [List.length_append, List.length_append, List.length_singleton, List.length_singleton]; omega, add (add rok mok1) mok2⟩
      · rintro σ H5 ⟨⟨u7, u8, rfl⟩, sd5, ok5, row, lr, rl5, rok⟩
        rw [hxl] at rl5
        have hF5 := hF.sd nfs nsf sd5 ok3.ntup
        refine ⟨_, rfl, .inl ⟨rfl, _, SqL.of hF5.at_⟩, _, rfl, fl, _, .ref rl, rfl, rfl, hF5.at_, by rw [rowsA_lsd hF5, sizeLine_eq]; omega, ?_⟩
        have nw := rowsA_snoc hF5 lr n2 nff
        rw [List.map_append] at nw
        refine ⟨⟨_, _, _, _, rfl⟩, sd_at1 (sd3.trans sd5) at1_upd nfl, ok5.at (upd_ne nfs.symm), rf ++ [rl], mv2 ++ [row], nw, not_snoc nff n2, not_snoc nsf n1, by rw [List.length_append, fl2]; rfl, fun rw' hrw => ?_⟩
        rcases List.mem_append.mp hrw with h | h
        · exact fok rw' h
        · rw [List.mem_singleton] at h
          subst h
          exact ⟨by omega, rok⟩
    · rintro σ H3 ⟨⟨u5, u6, u7, u8, rfl⟩, sd3, ok3, rf, mv2, hF, nff, nsf, fl2, fok⟩
      have hC3 := hC.sd nc.symm nrc sd3 ok.ntup
      refine ⟨_, rfl, _, rfl, _, rfl, ac, ac, _, _, rfl, rfl, hC3.at_, hC3.at_, by rw [rowsA_lsd hC3, sizeLine_eq]; omega, fun c2 nc2 => ?_⟩
      refine ⟨by show 2 ≤ sizeLine; rw [sizeLine_eq]; omega, fun r nr => ?_⟩
      have s1 : Same H3 (upd H3 c2 (.lst (rc.map V.ref ++ rc.map V.ref))) := same_new nc2
      have s2' : Same (upd H3 c2 (.lst (rc.map V.ref ++ rc.map V.ref))) (upd (upd H3 c2 (.lst (rc.map V.ref ++ rc.map V.ref))) r (.lst [.ref fl, .ref c2])) := same_new nr
      have s3 := s1.trans s2'
      exact q r _ fl rf c2 mv2 upd_same (sd3.trans (Same.sd s3)) (ok3.same s3) (hF.same s3) (rowsA_two (hC3.same s3) (s2' _ _ upd_same)) fl2 fok
end
end Fd

/-! Rows without doubles, in order. -/
namespace Fd
open PySem PySem.Spec PyProof.Rows L2
open Enc (enc)
section
variable {α : Type} [DecidableEq α]
def dedOut (row : List α) (i : Nat) : Option α := row[i]?.bind fun x => if x ∈ row.take i then none else some x
def ded (row : List α) : List α := outs (dedOut row) row.length
theorem ded_to (row : List α) : ∀ k, k ≤ row.length → (outs (dedOut row) k).Nodup ∧ ∀ x, x ∈ outs (dedOut row) k ↔ x ∈ row.take k
  | 0, _ => ⟨List.nodup_nil, fun x => Iff.rfl⟩
  | k + 1, hk => by
    obtain ⟨h1, h2⟩ := ded_to row k (by omega)
    have hx : row[k]? = some row[k] := List.getElem?_eq_getElem (by omega)
    have tk := take_snoc hx
    by_cases h : row[k] ∈ row.take k
    · have e : dedOut row k = none := by
        unfold dedOut
        rw [hx]
        show (if row[k] ∈ row.take k then none else some row[k]) = none
        rw [if_pos h]
      rw [outs_none e]
      refine ⟨h1, fun x => ?_⟩
      rw [h2 x, tk, List.mem_append, List.mem_singleton]
      constructor
      · exact .inl
      · rintro (z | z)
        · exact z
        · exact z ▸ h
    · have e : dedOut row k = some row[k] := by
        unfold dedOut
        rw [hx]
        show (if row[k] ∈ row.take k then none else some row[k]) = _
        rw [if_neg h]
      rw [outs_some e]
      constructor
      · rw [List.nodup_append]
        refine ⟨h1, by simp, fun a ha b hb => ?_⟩
        rw [List.mem_singleton] at hb
        subst hb
        intro z
        subst z
        exact h ((h2 _).mp ha)
      · intro x
        rw [tk, List.mem_append, List.mem_append, h2 x]
theorem ded_nodup (row : List α) : (ded row).Nodup := (ded_to row _ (Nat.le_refl _)).1
theorem ded_mem {row : List α} {x : α} : x ∈ ded row ↔ x ∈ row := by
  have := (ded_to row _ (Nat.le_refl _)).2 x
  rw [List.take_length] at this
  exact this
theorem ded_len (row : List α) : (ded row).length ≤ row.length := outs_len _ _
end
theorem iss_perm {α : Type} [Enc α] {H : Hp} {vs us : List V} (p : us.Perm vs) : ∀ {xs : List α}, Dats H (xs.map enc) vs → ∃ ys : List α, ys.Perm xs ∧ Dats H (ys.map enc) us := by
  induction p with
  | nil => exact fun h => ⟨_, List.Perm.refl _, h⟩
  | cons x _ ih =>
    intro xs h
    cases xs with
    | nil => exact absurd (dats_of_nil h) (by simp)
    | cons d ds =>
      obtain ⟨h1, h2⟩ := dats_uncons h
      obtain ⟨es, q1, q2⟩ := ih h2
      exact ⟨d :: es, q1.cons d, dats_cons h1 q2⟩
  | swap x y l =>
    intro xs h
    match xs, h with
    | [], h => exact absurd (dats_of_nil h) (by simp)
    | [_], h =>
      obtain ⟨_, h2⟩ := dats_uncons h
      exact absurd (dats_of_nil h2) (by simp)
    | d :: e :: ds, h =>
      obtain ⟨h1, h2⟩ := dats_uncons h
      obtain ⟨h3, h4⟩ := dats_uncons h2
      exact ⟨e :: d :: ds, List.Perm.swap _ _ _, dats_cons h3 (dats_cons h1 h4)⟩
  | trans _ _ ih1 ih2 =>
    intro xs h
    obtain ⟨es, q1, q2⟩ := ih2 h
    obtain ⟨fs, q3, q4⟩ := ih1 q2
    exact ⟨fs, q3.trans q1, q4⟩
theorem code4 (x y z t : Int) : TS.code 64 [x, y, z, t] = x * 262144 + (y * 4096 + (z * 64 + t)) := by
  have e3 : (64 : Int) ^ 3 = 262144 := by decide
  have e2 : (64 : Int) ^ 2 = 4096 := by decide
  have e1 : (64 : Int) ^ 1 = 64 := by decide
  have e0 : (64 : Int) ^ 0 = 1 := by decide
  show x * 64 ^ 3 + (y * 64 ^ 2 + (z * 64 ^ 1 + (t * 64 ^ 0 + 0))) = _
  rw [e3, e2, e1, e0, Int.mul_one, Int.add_zero]
theorem mv_up {x y : Mv} (hx : x.s < 64 ∧ x.a < 64 ∧ x.m < 64 ∧ x.g < 64) (hy : y.s < 64 ∧ y.a < 64 ∧ y.m < 64 ∧ y.g < 64) (h : TS.code 64 x.ints ≤ TS.code 64 y.ints) (ne : x ≠ y) : dltAll (x.ints.map .num) (y.ints.map .num) = true := by
  unfold Mv.ints at h
  rw [code4, code4] at h
  have c : x.s < y.s ∨ (x.s = y.s ∧ (x.a < y.a ∨ (x.a = y.a ∧ (x.m < y.m ∨ (x.m = y.m ∧ x.g < y.g))))) := by
    rcases Nat.lt_trichotomy x.s y.s with c | c | c
    · exact .inl c
    · refine .inr ⟨c, ?_⟩
      rcases Nat.lt_trichotomy x.a y.a with d | d | d
      · exact .inl d
      · refine .inr ⟨d, ?_⟩
        rcases Nat.lt_trichotomy x.m y.m with e | e | e
        · exact .inl e
        · refine .inr ⟨e, ?_⟩
          rcases Nat.lt_trichotomy x.g y.g with f | f | f
          · exact f
          · refine (ne ?_).elim
            cases x
            cases y
            simp only at c d e f
            rw [c, d, e, f]
          · omega
        · omega
      · omega
    · omega
  show dltAll [.num x.s, .num x.a, .num x.m, .num x.g] [.num y.s, .num y.a, .num y.m, .num y.g] = true
  simp only [dltAll, dlt, NestedKey.num.injEq, Int.ofNat_inj]
  rcases c with c | ⟨c1, c | ⟨c2, c | ⟨c3, c⟩⟩⟩
  · rw [if_neg (by omega)]
    exact decide_eq_true (by omega)
  · rw [if_pos c1, if_neg (by omega)]
    exact decide_eq_true (by omega)
  · rw [if_pos c1, if_pos c2, if_neg (by omega)]
    exact decide_eq_true (by omega)
  · rw [if_pos c1, if_pos c2, if_pos c3, if_neg (by omega)]
    exact decide_eq_true (by omega)
theorem rowsUp_of : ∀ {row : List Mv}, row.Pairwise (fun x y => dltAll (x.ints.map .num) (y.ints.map .num) = true) → rowsUp (row.map Mv.ints) = true
  | [], _ => rfl
  | [_], _ => rfl
  | x :: y :: r, h => by
    have h1 := (List.pairwise_cons.mp h).1 y List.mem_cons_self
    have h2 := rowsUp_of (row := y :: r) (List.pairwise_cons.mp h).2
    simp only [List.map_cons, rowsUp, Bool.and_eq_true] at h2 ⊢
    exact ⟨h1, h2⟩
/-- a sorted permutation of moves without doubles -/
theorem sorted_moves {K : PySem.W.Frag} {H : Hp} {ys : List V} {row : List Mv} (nd : row.Nodup) (hb : ∀ x ∈ row, x.s < 64 ∧ x.a < 64 ∧ x.m < 64 ∧ x.g < 64) (hd : Dats H (row.map enc) ys) (hp : ys.Pairwise (fun x y => ∀ n m, TupI K H x n → TupI K H y m → TS.code 64 n ≤ TS.code 64 m)) : rowsUp (row.map Mv.ints) = true := by
  have tup : ∀ {m : Mv} {v : V}, Is H m v → TupI K H v m.ints := fun {m v} h => by
    obtain ⟨a, vs, rfl, ha, hv⟩ := dat_tup.mp h
    have e := dats_nums (ns := m.ints) hv
    exact ⟨a, rfl, SqT.of (by rw [ha, e])⟩
  refine rowsUp_of ?_
  have key : ∀ {row : List Mv} {ys : List V}, row.Nodup → (∀ x ∈ row, x.s < 64 ∧ x.a < 64 ∧ x.m < 64 ∧ x.g < 64) → Dats H (row.map enc) ys → ys.Pairwise (fun x y => ∀ n m, TupI K H x n → TupI K H y m → TS.code 64 n ≤ TS.code 64 m) → row.Pairwise (fun x y => dltAll (x.ints.map .num) (y.ints.map .num) = true) := by
    intro row
    induction row with
    | nil => exact fun _ _ _ _ => List.Pairwise.nil
    | cons x row ih =>
      intro ys nd hb hd hp
      obtain ⟨v, r, rfl, h1, h2⟩ := dats_of_cons hd
      rw [List.nodup_cons] at nd
      rw [List.pairwise_cons] at hp
      refine List.pairwise_cons.mpr ⟨fun y hy => ?_, ih nd.2 (fun z hz => hb z (List.mem_cons_of_mem _ hz)) h2 hp.2⟩
      obtain ⟨j, hj⟩ := List.getElem?_of_mem hy
      obtain ⟨u, hu, hyu⟩ := dats_get h2 (i := j) (d := enc y) (by rw [List.getElem?_map, hj]; rfl)
      exact mv_up (hb x List.mem_cons_self) (hb y (List.mem_cons_of_mem _ hy)) (hp.1 u (List.mem_of_getElem? hu) _ _ (tup h1) (tup hyu)) fun e => nd.1 (e ▸ hy)
  exact key nd hb hd hp
theorem code_ok {K : PySem.W.Frag} {H : Hp} {xs : List V} {row : List Mv} (hb : ∀ x ∈ row, x.s < 64 ∧ x.a < 64 ∧ x.m < 64 ∧ x.g < 64) (hd : Dats H (row.map enc) xs) : ∀ x ∈ xs, ∃ ns, TupI K H x ns ∧ ns.length = 4 ∧ TS.Bd 64 ns := by
  intro x hx
  obtain ⟨j, hj⟩ := List.getElem?_of_mem hx
  obtain ⟨d, h1, h2⟩ := dats_getV hd hj
  rw [List.getElem?_map] at h1
  obtain ⟨m, hm, rfl⟩ := Option.map_eq_some_iff.mp h1
  obtain ⟨b1, b2, b3, b4⟩ := hb m (List.mem_of_getElem? hm)
  obtain ⟨a, vs, rfl, ha, hv⟩ := dat_tup.mp h2
  have e := dats_nums (ns := m.ints) hv
  refine ⟨m.ints, ⟨a, rfl, SqT.of (by rw [ha, e])⟩, rfl, fun k hk => ?_⟩
  unfold Mv.ints at hk
  simp only [List.mem_cons, List.not_mem_nil, or_false] at hk
  omega
end Fd

/-! The parts of an office. -/
namespace Fd
open PySem PySem.Spec PyProof.Rows L2
open Enc (enc)
abbrev s__law_parts_of : Stmt := topS 51
theorem sc__law_parts_of : FnScope ["_law_sizes_here", "_law_moves", "_law_closings", "_law_rows", "_law_row", "_law_lasts_here", "_law_at", "_law_move", "_law_mark"] ["_law_sizes_here", "_law_moves", "_law_closings"] (defScope s__law_parts_of) := ⟨rfl, rfl, rfl, by decide +kernel, rfl, by decide +kernel, by decide +kernel⟩
theorem lc_ded {α : Type} [Enc α] [DecidableEq α] {K : PySem.W.Frag} {a : Addr} {xs : List V} {row : List α} {j0 j1 : Nat} {tt : TT} {σ : L2.St} {H1 : Hp} {D : Addr} {Qd : Hp → Prop} (hx : H1 a = some (.lst xs)) (hd : Dats H1 (row.map enc) xs) (hD : H1 D = none) (hz : xs.length ≤ 1000)
    (hw : ∀ u v : V, wipe (((wipe σ [j0, j1]).set j0 (some u)).set j1 (some v)) [j0, j1] = wipe σ [j0, j1]) (hv : ∀ u v : V, (((wipe σ [j0, j1]).set j0 (some u)).set j1 (some v))[j1]? = some (some v))
    (ht : ∀ (i : Nat) (v : V) (x : α) (H : Hp), row[i]? = some x → Same H1 H → Is H x v → EvB tt (((wipe σ [j0, j1]).set j0 (some (.int (i : Nat)))).set j1 (some v)) H (decide (x ∉ row.take i)))
    (hQ : ∀ H', Same H1 H' → Ls H' D (ded row) → Qd H') :
    ∃ W : Nat → Nat → Hp → Prop, (∃ m, W 0 m (upd H1 D (.lst []))) ∧ ∀ i m H, W i m H →
      ((Ite K a).stop i H ∧ Qd H) ∨ ((Ite K a).go i H ∧ ∃ Nx : Hp → Prop, (∀ H', Nx H' → ∃ m', m' < m ∧ W (i + 1) m' H') ∧ ∀ x H', (Ite K a).yld i H x H' → gTup K 2 (gCons (gName j0) (gCons (gName j1) gNil)) x (wipe σ [j0, j1]) H' fun σ2 H2 => wipe σ2 [j0, j1] = wipe σ [j0, j1] ∧ tt σ2 H2 fun b H3 =>
        if b = true then tVar j1 σ2 H3 fun y H4 => ∃ acc, H4 D = some (.lst acc) ∧ acc.length < sizeLine ∧ Nx (upd H4 D (.lst (acc ++ [y]))) else Nx H3) := by
  have len := dats_len hd
  rw [List.length_map] at len
  refine lc_it walk_enum (fun i H => Same H1 H ∧ Ls H D (outs (dedOut row) i)) ⟨same_new hD, [], upd_same, dats_nil⟩ (fun i H _ p => SqL.of (p.1 _ _ hx)) ?_ fun H p => hQ H p.1 (by rw [len] at p; exact p.2)
  rintro i v H H' hi ⟨sm, acc, hacc, hda⟩ ⟨T, x1, y1, rfl, nT, rfl, ex, hy⟩
  have ex' : x1 = .int (i : Nat) := (Option.some.inj ex).symm
  subst ex'
  have s2 : Same H (upd H T (.tup [.int (i : Nat), y1])) := same_new nT
  obtain ⟨dd, g1, g2⟩ := dats_getV hd hy
  rw [List.getElem?_map] at g1
  obtain ⟨x, hxm, rfl⟩ := Option.map_eq_some_iff.mp g1
  refine ⟨T, _, rfl, SqT.of upd_same, rfl, _, _, rfl, _, _, rfl, rfl, hw _ _, ?_⟩
  generalize upd H T (.tup [.int (i : Nat), y1]) = H2 at *
  refine ht i y1 x H2 hxm (sm.trans s2) (g2.same (sm.trans s2)) _ fun H3 s3 => ?_
  have o : dedOut row i = if x ∈ row.take i then none else some x := by
    unfold dedOut
    rw [hxm]
    rfl
  have s13 := (sm.trans s2).trans s3
  have h4 : H3 D = some (.lst acc) := s3 _ _ (s2 _ _ hacc)
  by_cases h : x ∈ row.take i
  · refine iteF' (decide_eq_false fun z => z h) ⟨s13, ?_⟩
    rw [outs_none (by rw [o, if_pos h])]
    exact ⟨acc, h4, (hda.same s2).same s3⟩
  · refine iteT' (decide_eq_true h) ⟨y1, hv _ _, acc, h4, ?_, ?_, ?_⟩
    · have h5 := dats_len hda
      have h6 := outs_len (dedOut row) i
      rw [List.length_map] at h5
      rw [sizeLine_eq]
      omega
    · intro b ob eb
      have nb : b ≠ D := fun z => by
        rw [z, hD] at eb
        cases eb
      rw [upd_ne nb]
      exact s13 _ _ eb
    · rw [outs_some (a := x) (by rw [o, if_neg h])]
      refine ⟨_, upd_same, ?_⟩
      rw [List.map_append]
      exact Dats.mono (tx_lst h4) _ _ (dats_app ((hda.same s2).same s3) (dats_cons (g2.same s13) dats_nil))
section
variable {P : Program} {w : World} {K : PySem.W.Frag} {mg : Str → Option Value} {base : Heap}
def spPartsOf : Sp := fun vs H Q _ => ∃ (zv : V) (am ac : Addr) (rm rc : List Addr) (z : Sz) (mv : List (List Mv)) (cl : List (List Nat)), vs = [zv, .ref am, .ref ac] ∧ Is H z zv ∧ SzOk z ∧ RowsA H am rm mv ∧ RowsA H ac rc cl ∧ 1 ≤ mv.length ∧ mv.length ≤ 6 ∧ cl.length = mv.length ∧
  (∀ row ∈ mv, row.length ≤ 6 ∧ ∀ m ∈ row, MvOk z mv.length m) ∧ (∀ row ∈ cl, row.length ≤ 2 ∧ ∀ l ∈ row, l < z.m) ∧ ∀ v H' p, Same H H' → PtsOk p → p.z = z → Is H' p v → Q v H'
theorem ok_law_parts_of (B : Bi mg) (d : Df K mg "_law_parts_of" "_law_parts_of" s__law_parts_of ["_law_sizes_here", "_law_moves", "_law_closings"]) : Ok P w K mg base 1 "_law_parts_of" ["_law_sizes_here", "_law_moves", "_law_closings"] spPartsOf := by
  refine d.ok sc__law_parts_of (fun vs H Q E h => ?_) (fun f cdv A outer s H vs Q E hr h => ?_)
  · obtain ⟨zv, am, ac, rm, rc, z, mv, cl, rfl, _⟩ := h
    rfl
  · obtain ⟨zv, am, ac, rm, rc, z, mv, cl, rfl, hz, zok, hM, hC, m1, m6, cln, mok, cok, q⟩ := h
    refine ⟨_, (pss_cons (pss 3 sc__law_parts_of.nd (pe_lstD pa_nil))
      (pss_cons (ps_for PassesOwn.never rfl (pi_list (pv 1)) (pgn 4 sc__law_parts_of.nd)
        (pss_one (ps_expr (pe_bm PySem.F.plainAttrs_list PySem.F.slot_list_append PySem.F.type_list_append mt_appD (pv 3) (pa_cons (pe_callTy cr_tupD (by rfl) B.tuple (by decide +kernel) (pa_cons (pe_callB (cr_sortT (d := 4) (B := 64) (by decide)) (by rfl) B.sorted (by decide +kernel) (pa_cons (pe_lc (own := [("_law_at", 6), ("_law_move", 7)]) rfl sc__law_parts_of.nd (pi_enum rfl B.enumerate (pa_cons (pv 4) pa_nil)) (blkOk_by (N := ["_law_sizes_here", "_law_moves", "_law_closings", "_law_rows", "_law_row", "_law_lasts_here", "_law_at", "_law_move", "_law_mark"]) (sc := defScope s__law_parts_of) (by decide +kernel)) (fun _ _ _ _ _ => (pg_tupK K rfl (n := 2) rfl (pgs_cons (pgn 6 sc__law_parts_of.nd) (pgs_cons (pgn 7 sc__law_parts_of.nd) pgs_nil)))) (fun _ _ _ _ _ => (pts_one (pt_cmpR (op_notInNK K rfl hr.units) (pv 7) (pe_slice (sl_lsdK K rfl) (pv 4) po_none (po_some (pv 6))) (by rfl)))) (fun _ _ _ _ _ => (pv 7))) pa_nil)) pa_nil)) pa_nil)))))
      (pss_cons (pss 5 sc__law_parts_of.nd (pe_lstD pa_nil))
      (pss_cons (ps_for PassesOwn.never rfl (pi_list (pv 2)) (pgn 4 sc__law_parts_of.nd)
        (pss_one (ps_expr (pe_bm PySem.F.plainAttrs_list PySem.F.slot_list_append PySem.F.type_list_append mt_appD (pv 5) (pa_cons (pe_callTy cr_tupD (by rfl) B.tuple (by decide +kernel) (pa_cons (pe_callB cr_sorted (by rfl) B.sorted (by decide +kernel) (pa_cons (pe_lc (own := [("_law_at", 6), ("_law_mark", 8)]) rfl sc__law_parts_of.nd (pi_enum rfl B.enumerate (pa_cons (pv 4) pa_nil)) (blkOk_by (N := ["_law_sizes_here", "_law_moves", "_law_closings", "_law_rows", "_law_row", "_law_lasts_here", "_law_at", "_law_move", "_law_mark"]) (sc := defScope s__law_parts_of) (by decide +kernel)) (fun _ _ _ _ _ => (pg_tupK K rfl (n := 2) rfl (pgs_cons (pgn 6 sc__law_parts_of.nd) (pgs_cons (pgn 8 sc__law_parts_of.nd) pgs_nil)))) (fun _ _ _ _ _ => (pts_one (pt_cmpR (op_notInNK K rfl hr.units) (pv 8) (pe_slice (sl_lsdK K rfl) (pv 4) po_none (po_some (pv 6))) (by rfl)))) (fun _ _ _ _ _ => (pv 8))) pa_nil)) pa_nil)) pa_nil)))))
      (pss_one (ps_ret (pe_tupD (pa_cons (pv 0) (pa_cons (pe_callTy cr_tupD (by rfl) B.tuple (by decide +kernel) (pa_cons (pv 3) pa_nil)) (pa_cons (pe_callTy cr_tupD (by rfl) B.tuple (by decide +kernel) (pa_cons (pv 5) pa_nil)) pa_nil)))))))))), ?_⟩
    have z2 := zok.s.2
    have z4 := zok.a.2
    have z6 := zok.m.2
    refine ⟨[], dats_nil, Nat.zero_le _, fun l3 H1 n3 a1 l1 => ?_⟩
    have s1 : Same H H1 := a1.same n3
    refine ⟨_, rfl, am, rfl, ⟨_, SqL.of (s1 _ _ hM.at_)⟩, for_list (xs := rm.map V.ref) (fun i σ H' => (∃ u4 : Option V, σ = [some zv, some (.ref am), some (.ref ac), some (.ref l3), u4, none, none, none, none]) ∧ Same H H' ∧ ∃ mv2 : List (List Mv), Ls H' l3 mv2 ∧ mv2.length = i ∧ ∀ row ∈ mv2, RowOk z mv.length row)
      ⟨⟨none, rfl⟩, s1, [], l1, rfl, fun row h => (nomatch h)⟩ (fun i σ H' _ p => SqL.of (p.2.1 _ _ hM.at_)) ?_ ?_⟩
    · rintro i y σ H2 hy ⟨⟨u4, rfl⟩, sm, mv2, l2, ml, rok⟩
      have hi : i < mv.length := by
        have := (List.getElem?_eq_some_iff.mp hy).1
        rw [rowsA_lsd hM] at this
        exact this
      obtain ⟨l, e1, e2⟩ := hM.row i mv[i] (List.getElem?_eq_getElem hi)
      have hin : mv[i] ∈ mv := List.getElem_mem hi
      generalize mv[i] = row at e2 hin
      rw [List.getElem?_map, e1] at hy
      cases hy
      obtain ⟨k1, k2⟩ := mok row hin
      obtain ⟨xs, hx, hxs⟩ := e2.same sm
      have hxl := dats_len hxs
      rw [List.length_map] at hxl
      obtain ⟨rv, hrv⟩ := lsd_nd l2
      refine ⟨_, rfl, .inl ⟨rfl, _, SqL.of hrv⟩, _, rfl, l, xs, rfl, SqL.of hx, fun D hD => ?_⟩
      refine lc_ded hx hxs hD (by omega) (fun u v => rfl) (fun u v => rfl) (fun i v x H3 hxi s3 hv Q' q' => ?_) fun H3 s3 l3' => ?_
      · refine ⟨_, rfl, _, rfl, _, rfl, _, rfl, l, _, i, rfl, e2.same (sm.trans s3), rfl, rfl, fun p H4 np s4 l4 => ?_⟩
        obtain ⟨vs4, v41, v42⟩ := id l4
        refine ⟨enc x, _, hv.same s4, ⟨p, vs4, rfl, .inl (SqL.of v41), v42⟩, okd x, fun e he => ?_, _, rfl, ?_⟩
        · obtain ⟨m, _, rfl⟩ := List.mem_map.mp (List.mem_of_mem_take he)
          exact okd m
        · have e : (!decide (enc x ∈ (row.map enc).take i)) = decide (x ∉ row.take i) := by
            rw [← List.map_take, mem_enc]
            simp
          show Q' (!decide (enc x ∈ (row.map enc).take i)) H4
          rw [e]
          exact q' _ s4
      · obtain ⟨ds, hds, hdd⟩ := id l3'
        have hdl := dats_len hdd
        rw [List.length_map] at hdl
        have dl := ded_len row
        have bnd : ∀ x ∈ ded row, x.s < 64 ∧ x.a < 64 ∧ x.m < 64 ∧ x.g < 64 := fun x hx => by
          obtain ⟨o1, o2, o3, o4⟩ := k2 x (ded_mem.mp hx)
          omega
        refine ⟨D, ds, rfl, SqL.of hds, by omega, code_ok bnd hdd, fun ys p perm pw np => ?_⟩
        obtain ⟨row2, pr, hr2⟩ := iss_perm perm hdd
        have s4 : Same H3 (upd H3 p (.lst ys)) := same_new np
        have up2 := sorted_moves (pr.nodup_iff.mpr (ded_nodup row)) (fun x hx => bnd x (pr.mem_iff.mp hx)) hr2 pw
        refine ⟨p, row2.map enc, rfl, ⟨ys, upd_same, hr2.same s4⟩, fun tv H5 s5 h5 => ?_⟩
        have s25 := (s3.trans s4).trans s5
        refine ⟨l3, _, enc row2, tv, rfl, rfl, l2.same s25, h5, by rw [List.length_map, sizeLine_eq]; omega, fun H6 a6 l6 => ⟨⟨_, rfl⟩, At1.sameOf (sm.trans s25) a6 n3, mv2 ++ [row2], lsd_app (ys := [row2]) l6, by rw [List.length_append, ml]; rfl, fun r hr => ?_⟩⟩
        rcases List.mem_append.mp hr with h | h
        · exact rok r h
        · rw [List.mem_singleton] at h
          subst h
          exact ⟨fun m hm => k2 m (ded_mem.mp (pr.mem_iff.mp hm)), up2, by have := pr.length_eq; omega⟩
    · rintro σ H2 ⟨⟨u4, rfl⟩, sm, mv2, l2, ml, rok⟩
      rw [rowsA_lsd hM] at ml
      refine ⟨[], dats_nil, Nat.zero_le _, fun l5 H3 n5 a3 l5' => ?_⟩
      have s3 : Same H2 H3 := a3.same n5
      have sm3 := sm.trans s3
      have n50 : H l5 = none := sm.free n5
      refine ⟨_, rfl, ac, rfl, ⟨_, SqL.of (sm3 _ _ hC.at_)⟩, for_list (xs := rc.map V.ref) (fun i σ H' => (∃ u4 : Option V, σ = [some zv, some (.ref am), some (.ref ac), some (.ref l3), u4, some (.ref l5), none, none, none]) ∧ Same H2 H' ∧ ∃ cl2 : List (List Nat), Ls H' l5 cl2 ∧ cl2.length = i ∧ ClosOk z cl2)
        ⟨⟨u4, rfl⟩, s3, [], l5', rfl, fun row h => (nomatch h)⟩ (fun i σ H' _ p => SqL.of ((sm.trans p.2.1) _ _ hC.at_)) ?_ ?_⟩
      · rintro i y σ H4 hy ⟨⟨u4, rfl⟩, s4, cl2, l4, cl4, rok4⟩
        have hi : i < cl.length := by
          have := (List.getElem?_eq_some_iff.mp hy).1
          rw [rowsA_lsd hC] at this
          exact this
        obtain ⟨l, e1, e2⟩ := hC.row i cl[i] (List.getElem?_eq_getElem hi)
        have hin : cl[i] ∈ cl := List.getElem_mem hi
        generalize cl[i] = row at e2 hin
        rw [List.getElem?_map, e1] at hy
        cases hy
        obtain ⟨k1, k2⟩ := cok row hin
        have sm4 := sm.trans s4
        obtain ⟨xs, hx, hxs⟩ := e2.same sm4
        have hxl := dats_len hxs
        rw [List.length_map] at hxl
        obtain ⟨rv, hrv⟩ := lsd_nd l4
        refine ⟨_, rfl, .inl ⟨rfl, _, SqL.of hrv⟩, _, rfl, l, xs, rfl, SqL.of hx, fun D hD => ?_⟩
        refine lc_ded hx hxs hD (by omega) (fun u v => rfl) (fun u v => rfl) (fun i v x H5 hxi s5 hv Q' q' => ?_) fun H5 s5 l5' => ?_
        · refine ⟨_, rfl, _, rfl, _, rfl, _, rfl, l, _, i, rfl, e2.same (sm4.trans s5), rfl, rfl, fun p H6 np s6 l6 => ?_⟩
          obtain ⟨vs4, v41, v42⟩ := id l6
          refine ⟨enc x, _, hv.same s6, ⟨p, vs4, rfl, .inl (SqL.of v41), v42⟩, okd x, fun e he => ?_, _, rfl, ?_⟩
          · obtain ⟨m, _, rfl⟩ := List.mem_map.mp (List.mem_of_mem_take he)
            exact okd m
          · have e : (!decide (enc x ∈ (row.map enc).take i)) = decide (x ∉ row.take i) := by
              rw [← List.map_take, mem_enc]
              simp
            show Q' (!decide (enc x ∈ (row.map enc).take i)) H6
            rw [e]
            exact q' _ s6
        · have hds := ls_ints l5'
          have dl := ded_len row
          refine ⟨D, (ded row).map fun n : Nat => ((n : Nat) : Int), rfl, SqL.of hds, by rw [List.length_map]; omega, fun ys p perm pw np => ?_⟩
          have up := perm_up perm pw (cast_nodup (ded_nodup row))
          -- the sorted row, as natural numbers
          obtain ⟨row2, er⟩ : ∃ row2 : List Nat, ys = row2.map fun n : Nat => ((n : Nat) : Int) := by
            refine ⟨ys.map Int.toNat, ?_⟩
            rw [List.map_map]
            have : ys.map id = ys.map ((fun n : Nat => ((n : Nat) : Int)) ∘ Int.toNat) := List.map_congr_left fun k hk => by
              obtain ⟨n, _, rfl⟩ := List.mem_map.mp (perm.mem_iff.mp hk)
              rfl
            rw [List.map_id] at this
            exact this
          subst er
          have mem2 : ∀ x ∈ row2, x ∈ row := fun x hx => by
            have h1 : ((x : Nat) : Int) ∈ (ded row).map fun n : Nat => ((n : Nat) : Int) := perm.mem_iff.mp (List.mem_map_of_mem hx)
            obtain ⟨n, h2, h3⟩ := List.mem_map.mp h1
            have e : n = x := by omega
            exact ded_mem.mp (e ▸ h2)
          have len2 : row2.length ≤ 2 := by
            have := perm.length_eq
            rw [List.length_map, List.length_map] at this
            omega
          have up2 : row2.Pairwise (· < ·) := by
            rw [List.pairwise_map] at up
            exact up.imp fun h => by omega
          refine ⟨p, row2.map enc, rfl, lsd_ints upd_same, fun tv H6 s6 h6 => ?_⟩
          have s46 := (s5.trans (same_new np)).trans s6
          refine ⟨l5, _, enc row2, tv, rfl, rfl, l4.same s46, h6, by rw [List.length_map, sizeLine_eq]; omega, fun H7 a7 l7 => ⟨⟨_, rfl⟩, At1.sameOf (s4.trans s46) a7 n5, cl2 ++ [row2], lsd_app (ys := [row2]) l7, by rw [List.length_append, cl4]; rfl, fun r hr => ?_⟩⟩
          rcases List.mem_append.mp hr with h | h
          · exact rok4 r h
          · rw [List.mem_singleton] at h
            subst h
            exact ⟨up2, fun x hx => k2 x (mem2 x hx), len2⟩
      · rintro σ H4 ⟨⟨u4, rfl⟩, s4, cl2, l4, cl4, rok4⟩
        rw [rowsA_lsd hC, cln] at cl4
        refine ⟨_, rfl, _, rfl, l3, _, rfl, l2.same s4, fun v1 H5 s5 h5 => ⟨_, rfl, l5, _, rfl, l4.same s5, fun v2 H6 s6 h6 => ?_⟩⟩
        have s26 := (s4.trans s5).trans s6
        refine ⟨[enc z, enc mv2, enc cl2], dats_cons (hz.same (sm.trans s26)) (dats_cons (h5.same s6) (dats_cons h6 dats_nil)), by show 3 ≤ sizeLine; rw [sizeLine_eq]; omega, fun v H7 s7 h7 => ?_⟩
        exact q v H7 ⟨z, mv2, cl2⟩ ((sm.trans s26).trans s7) ⟨zok.s, zok.a, zok.m, ⟨⟨by show 1 ≤ mv2.length; omega, by show mv2.length ≤ 6; omega⟩, fun row hr => by show RowOk z mv2.length row; rw [ml]; exact rok row hr⟩, rok4, by show cl2.length = mv2.length; omega⟩ rfl h7
end
end Fd

/-! Parts, drawn. -/
namespace Fd
open PySem PySem.Spec PyProof.Rows L2
open Enc (enc)
abbrev s__law_sure_parts : Stmt := topS 52
theorem sc__law_sure_parts : FnScope ["_law_source_here", "_law_sizes_here", "_law_moves", "_law_closings"] ["_law_source_here"] (defScope s__law_sure_parts) := ⟨rfl, rfl, rfl, by decide +kernel, rfl, by decide +kernel, by decide +kernel⟩
abbrev s__law_loose_parts : Stmt := topS 53
theorem sc__law_loose_parts : FnScope ["_law_source_here", "_law_sizes_here", "_law_many", "_law_moves", "_law_closings", "_law_k", "_law_turn", "_law_step"] ["_law_source_here"] (defScope s__law_loose_parts) := ⟨rfl, rfl, rfl, by decide +kernel, rfl, by decide +kernel, by decide +kernel⟩
abbrev s__law_parts : Stmt := topS 54
theorem sc__law_parts : FnScope ["_law_source_here"] ["_law_source_here"] (defScope s__law_parts) := ⟨rfl, rfl, rfl, by decide +kernel, rfl, by decide +kernel, by decide +kernel⟩
theorem menu_ok : ∀ z ∈ menu, SzOk z := by
  intro z hz
  unfold menu at hz
  simp only [List.mem_cons, List.not_mem_nil, or_false] at hz
  rcases hz with rfl | rfl | rfl | rfl | rfl | rfl | rfl | rfl | rfl | rfl <;> exact ⟨by decide, by decide, by decide⟩
theorem menu_one : ∀ z ∈ menu, z.m * (z.s * z.a * z.m) ≤ 400 := by
  intro z hz
  unfold menu at hz
  simp only [List.mem_cons, List.not_mem_nil, or_false] at hz
  rcases hz with rfl | rfl | rfl | rfl | rfl | rfl | rfl | rfl | rfl | rfl <;> decide
theorem erase_map {α β : Type} (f : α → β) : ∀ (xs : List α) (i : Nat), (xs.map f).eraseIdx i = (xs.eraseIdx i).map f
  | [], _ => rfl
  | _ :: _, 0 => rfl
  | x :: xs, i + 1 => by
    rw [List.map_cons, List.eraseIdx_cons_succ, List.eraseIdx_cons_succ, List.map_cons, erase_map f xs i]
theorem cast_one (r : Nat) : (1 : Int) + (r : Int) = ((1 + r : Nat) : Int) := by omega
/-- rows below k are done, row k is at work, the others are new -/
structure KRows {α : Type} (okx : α → Prop) (n u b k lo hi : Nat) (xs : List (List α)) : Prop where
  len : xs.length = n
  row : ∀ (j : Nat) (row : List α), xs[j]? = some row → (∀ m ∈ row, okx m) ∧ (j < k → row.length ≤ b) ∧ (j = k → lo ≤ row.length ∧ row.length ≤ hi) ∧ (k < j → row.length = u)
section
variable {α : Type} {okx : α → Prop} {n u b k lo hi : Nat} {xs : List (List α)}
theorem KRows.start (l : xs.length = n) (h : ∀ row ∈ xs, row.length = u ∧ ∀ m ∈ row, okx m) : KRows okx n u b 0 u u xs :=
  ⟨l, fun j row hj => ⟨(h row (List.mem_of_getElem? hj)).2, fun z => absurd z (Nat.not_lt_zero _), fun _ => by rw [(h row (List.mem_of_getElem? hj)).1]; exact ⟨Nat.le_refl _, Nat.le_refl _⟩, fun _ => (h row (List.mem_of_getElem? hj)).1⟩⟩
theorem KRows.set {lo2 hi2 : Nat} {row : List α} (h : KRows okx n u b k lo hi xs) (ok : ∀ m ∈ row, okx m) (h1 : lo2 ≤ row.length) (h2 : row.length ≤ hi2) : KRows okx n u b k lo2 hi2 (xs.set k row) := by
  refine ⟨by rw [List.length_set, h.len], fun j r hj => ?_⟩
  rw [List.getElem?_set] at hj
  by_cases e : k = j
  · subst e
    rw [if_pos rfl] at hj
    split at hj
    · cases hj
      exact ⟨ok, fun z => absurd z (Nat.lt_irrefl _), fun _ => ⟨h1, h2⟩, fun z => absurd z (Nat.lt_irrefl _)⟩
    · cases hj
  · rw [if_neg e] at hj
    obtain ⟨a, b, _, d⟩ := h.row j r hj
    exact ⟨a, b, fun z => absurd z.symm e, d⟩
theorem KRows.wide {lo2 hi2 : Nat} (h : KRows okx n u b k lo hi xs) (h1 : lo2 ≤ lo) (h2 : hi ≤ hi2) : KRows okx n u b k lo2 hi2 xs :=
  ⟨h.len, fun j r hj => by
    obtain ⟨a, b, c, d⟩ := h.row j r hj
    exact ⟨a, b, fun z => ⟨Nat.le_trans h1 (c z).1, Nat.le_trans (c z).2 h2⟩, d⟩⟩
theorem KRows.next (h : KRows okx n u b k lo hi xs) (h2 : hi ≤ b) : KRows okx n u b (k + 1) u u xs :=
  ⟨h.len, fun j r hj => by
    obtain ⟨a, b', c, d⟩ := h.row j r hj
    refine ⟨a, fun z => ?_, fun z => ?_, fun z => d (by omega)⟩
    · by_cases e : j = k
      · exact Nat.le_trans (c e).2 h2
      · exact b' (by omega)
    · have := d (by omega)
      omega⟩
theorem KRows.done (h : KRows okx n u b n u u xs) : ∀ row ∈ xs, row.length ≤ b ∧ ∀ m ∈ row, okx m := fun row hr => by
  obtain ⟨j, hj⟩ := List.getElem?_of_mem hr
  obtain ⟨a, b, _⟩ := h.row j row hj
  have := (List.getElem?_eq_some_iff.mp hj).1
  exact ⟨b (by rw [← h.len]; exact this), a⟩
end
section
variable {P : Program} {w : World} {K : PySem.W.Frag} {mg : Str → Option Value} {base : Heap}
def spParts : Sp := fun vs H Q _ => ∃ src : Addr, vs = [.ref src] ∧ SrcOk H src ∧ ∀ v H' p, p.z ∈ menu → PtsOk p → Sd src H H' → SrcOk H' src → Is H' p v → Q v H'
theorem ok_law_sure_parts (o__law_draw : Ok P w K mg base 1 "_law_draw" ["_law_source_here", "_law_many"] spDraw) (o__law_sizes : Ok P w K mg base 2 "_law_sizes" ["_law_source_here"] spSizes)
    (o__law_sure_rows : Ok P w K mg base 2 "_law_sure_rows" ["_law_source_here", "_law_sizes_here", "_law_many"] spSureRows) (o__law_doubled : Ok P w K mg base 2 "_law_doubled" ["_law_source_here", "_law_moves", "_law_closings"] spDoubled)
    (o__law_parts_of : Ok P w K mg base 1 "_law_parts_of" ["_law_sizes_here", "_law_moves", "_law_closings"] spPartsOf) (d : Df K mg "_law_sure_parts" "_law_sure_parts" s__law_sure_parts ["_law_source_here"]) : Ok P w K mg base 3 "_law_sure_parts" ["_law_source_here"] spParts := by
  refine d.ok sc__law_sure_parts (fun vs H Q E h => ?_) (fun f cdv A outer s H vs Q E hr h => ?_)
  · obtain ⟨src, rfl, _⟩ := h
    rfl
  · obtain ⟨src, rfl, ok, q⟩ := h
    refine ⟨_, (pss_cons (pss 1 sc__law_sure_parts.nd (pe_fn o__law_sizes hr (pa_cons (pv 0) pa_nil)))
      (pss_cons (ps_asg (pe_fn o__law_sure_rows hr (pa_cons (pv 0) (pa_cons (pv 1) (pa_cons (pe_op op_add pe_int (pe_fn o__law_draw hr (pa_cons (pv 0) (pa_cons pe_int pa_nil)))) pa_nil)))) (pg_unl rfl (pgs_cons (pgn 2 sc__law_sure_parts.nd) (pgs_cons (pgn 3 sc__law_sure_parts.nd) pgs_nil))))
      (pss_cons (ps_if (pt_cmpR op_eq (pe_fn o__law_draw hr (pa_cons (pv 0) (pa_cons pe_int pa_nil))) pe_int (nomark _))
        (pss_one (ps_asg (pe_fn o__law_doubled hr (pa_cons (pv 0) (pa_cons (pv 2) (pa_cons (pv 3) pa_nil)))) (pg_unl rfl (pgs_cons (pgn 2 sc__law_sure_parts.nd) (pgs_cons (pgn 3 sc__law_sure_parts.nd) pgs_nil)))))
        pss_nil)
      (pss_one (ps_ret (pe_fn o__law_parts_of hr (pa_cons (pv 1) (pa_cons (pv 2) (pa_cons (pv 3) pa_nil))))))))), ?_⟩
    refine ⟨_, rfl, src, rfl, ok, fun zv H1 z hm sd1 ok1 hz => ?_⟩
    have zok := menu_ok z hm
    have z2 := zok.s.2
    refine ⟨_, rfl, _, rfl, _, rfl, src, 3, rfl, ok1, by omega, by omega, fun r H2 hr sd2 ok2 => ⟨_, _, rfl, rfl, src, zv, z, 1 + r, by show [V.ref src, zv, V.int (1 + (r : Int))] ++ [] = _; rw [cast_one]; rfl, ok2, hz.sd sd2 ok1.ntup, zok, by omega, by omega, fun lr H3 am ac rm rc mv cl hlr g ml cll mok cok => ?_⟩⟩
    refine ⟨lr, _, rfl, SqL.of hlr, rfl, _, _, rfl, _, _, rfl, rfl, ?_⟩
    have hz3 : Is H3 z zv := (hz.sd sd2 ok1.ntup).sd g.sd ok2.ntup
    refine ⟨_, rfl, src, 3, rfl, g.ok, by omega, by omega, fun r2 H4 hr2 sd4 ok4 => ⟨rfl, _, rfl, ?_⟩⟩
    have g4 := g.step sd4 ok4
    have hz4 : Is H4 z zv := hz3.sd sd4 g.ok.ntup
    have sd04 : Sd src H H4 := ((sd1.trans sd2).trans g.sd).trans sd4
    by_cases h0 : r2 = 0
    · subst h0
      refine iteT' (by decide) ?_
      refine ⟨_, rfl, _, rfl, _, rfl, src, am, ac, rm, rc, mv, cl, z, rfl, ok4, g4.rowM, g4.rowC, g4.ap.s1, g4.ap.s2, g4.ap.s3, g4.ap.s4, by omega, by omega, by omega, fun row hrow => ?_, fun lr2 H5 fl rf cl2 mv2 hlr2 sd5 ok5 hF hC2 ml2 fok => ?_⟩
      · obtain ⟨k1, k2⟩ := mok row hrow
        rw [ml]
        exact ⟨by omega, k2⟩
      refine ⟨lr2, _, rfl, SqL.of hlr2, rfl, _, _, rfl, _, _, rfl, rfl, ?_⟩
      refine ⟨_, rfl, _, rfl, _, rfl, zv, fl, cl2, rf, rc ++ rc, z, mv2, cl ++ cl, rfl, hz4.sd sd5 ok4.ntup, zok, hF, hC2, by omega, by omega, by rw [List.length_append]; omega, fun row hrow => ?_, fun row hrow => ?_, fun v H6 p s6 pok pz hp => ?_⟩
      · rw [ml2]
        exact fok row hrow
      · have h1 : row ∈ cl := by
          rcases List.mem_append.mp hrow with h | h <;> exact h
        obtain ⟨k1, k2⟩ := cok row h1
        exact ⟨by omega, k2⟩
      · exact q v H6 p (pz ▸ hm) pok ((sd04.trans sd5).trans (Same.sd s6)) (ok5.same s6) hp
    · refine iteF' (decide_eq_false fun e => h0 (by injection e with e; omega)) ?_
      refine ⟨_, rfl, _, rfl, _, rfl, zv, am, ac, rm, rc, z, mv, cl, rfl, hz4, zok, g4.rowM, g4.rowC, by omega, by omega, by omega, fun row hrow => ?_, fun row hrow => ?_, fun v H6 p s6 pok pz hp => ?_⟩
      · obtain ⟨k1, k2⟩ := mok row hrow
        rw [ml]
        exact ⟨by omega, k2⟩
      · obtain ⟨k1, k2⟩ := cok row hrow
        exact ⟨by omega, k2⟩
      · exact q v H6 p (pz ▸ hm) pok (sd04.trans (Same.sd s6)) (ok4.same s6) hp
theorem ok_law_loose_parts (B : Bi mg) (o__law_draw : Ok P w K mg base 1 "_law_draw" ["_law_source_here", "_law_many"] spDraw) (o__law_sizes : Ok P w K mg base 2 "_law_sizes" ["_law_source_here"] spSizes)
    (o__law_sure_rows : Ok P w K mg base 2 "_law_sure_rows" ["_law_source_here", "_law_sizes_here", "_law_many"] spSureRows)
    (o__law_parts_of : Ok P w K mg base 1 "_law_parts_of" ["_law_sizes_here", "_law_moves", "_law_closings"] spPartsOf) (d : Df K mg "_law_loose_parts" "_law_loose_parts" s__law_loose_parts ["_law_source_here"]) : Ok P w K mg base 3 "_law_loose_parts" ["_law_source_here"] spParts := by
  refine d.ok sc__law_loose_parts (fun vs H Q E h => ?_) (fun f cdv A outer s H vs Q E hr h => ?_)
  · obtain ⟨src, rfl, _⟩ := h
    rfl
  · obtain ⟨src, rfl, ok, q⟩ := h
    refine ⟨_, (pss_cons (pss 1 sc__law_loose_parts.nd (pe_fn o__law_sizes hr (pa_cons (pv 0) pa_nil)))
      (pss_cons (pss 2 sc__law_loose_parts.nd (pe_op op_add pe_int (pe_fn o__law_draw hr (pa_cons (pv 0) (pa_cons pe_int pa_nil)))))
      (pss_cons (ps_asg (pe_fn o__law_sure_rows hr (pa_cons (pv 0) (pa_cons (pv 1) (pa_cons (pv 2) pa_nil)))) (pg_unl rfl (pgs_cons (pgn 3 sc__law_loose_parts.nd) (pgs_cons (pgn 4 sc__law_loose_parts.nd) pgs_nil))))
      (pss_cons (ps_for PassesOwn.never rfl (pi_range1 rfl B.range (pa_cons (pv 2) pa_nil)) (pgn 5 sc__law_loose_parts.nd)
        (pss_cons (ps_for PassesOwn.never rfl (pi_range1 rfl B.range (pa_cons (pe_fn o__law_draw hr (pa_cons (pv 0) (pa_cons pe_int pa_nil))) pa_nil)) (pgn 6 sc__law_loose_parts.nd)
          (pss_cons (pss 7 sc__law_loose_parts.nd (pe_tupD (pa_cons (pe_fn o__law_draw hr (pa_cons (pv 0) (pa_cons (pe_ix ix_dat (pv 1) pe_int (fun _ _ => rfl)) pa_nil))) (pa_cons (pe_fn o__law_draw hr (pa_cons (pv 0) (pa_cons (pe_ix ix_dat (pv 1) pe_int (fun _ _ => rfl)) pa_nil))) (pa_cons (pe_fn o__law_draw hr (pa_cons (pv 0) (pa_cons (pe_ix ix_dat (pv 1) pe_int (fun _ _ => rfl)) pa_nil))) pa_nil)))))
          (pss_one (ps_expr (pe_bm PySem.F.plainAttrs_list PySem.F.slot_list_append PySem.F.type_list_append mt_appD (pe_ix ix_list (pv 3) (pv 5) (fun _ _ => rfl)) (pa_cons (pe_op op_catD (pv 7) (pe_tupD (pa_cons (pe_fn o__law_draw hr (pa_cons (pv 0) (pa_cons (pv 2) pa_nil))) pa_nil))) pa_nil))))))
        (pss_cons (ps_for PassesOwn.never rfl (pi_range1 rfl B.range (pa_cons (pe_fn o__law_draw hr (pa_cons (pv 0) (pa_cons pe_int pa_nil))) pa_nil)) (pgn 6 sc__law_loose_parts.nd)
          (pss_one (ps_expr (pe_bm PySem.F.plainAttrs_list PySem.F.slot_list_append PySem.F.type_list_append mt_appD (pe_ix ix_list (pv 4) (pv 5) (fun _ _ => rfl)) (pa_cons (pe_fn o__law_draw hr (pa_cons (pv 0) (pa_cons (pe_ix ix_dat (pv 1) pe_int (fun _ _ => rfl)) pa_nil))) pa_nil)))))
        (pss_cons (ps_if (pt_cmpR op_eq (pe_fn o__law_draw hr (pa_cons (pv 0) (pa_cons pe_int pa_nil))) pe_int (nomark _))
          (pss_one (ps_expr (pe_bm PySem.F.plainAttrs_list PySem.F.slot_list_pop PySem.F.type_list_pop mt_popAtD (pe_ix ix_list (pv 3) (pv 5) (fun _ _ => rfl)) (pa_cons (pe_fn o__law_draw hr (pa_cons (pv 0) (pa_cons (pe_callB cr_lenD (by rfl) B.len (by decide +kernel) (pa_cons (pe_ix ix_list (pv 3) (pv 5) (fun _ _ => rfl)) pa_nil)) pa_nil))) pa_nil))))
          pss_nil)
        (pss_one (ps_if (pt_cmpR op_eq (pe_fn o__law_draw hr (pa_cons (pv 0) (pa_cons pe_int pa_nil))) pe_int (nomark _))
          (pss_one (ps_expr (pe_bm PySem.F.plainAttrs_list PySem.F.slot_list_pop PySem.F.type_list_pop mt_popAtD (pe_ix ix_list (pv 4) (pv 5) (fun _ _ => rfl)) (pa_cons (pe_fn o__law_draw hr (pa_cons (pv 0) (pa_cons (pe_callB cr_lenD (by rfl) B.len (by decide +kernel) (pa_cons (pe_ix ix_list (pv 4) (pv 5) (fun _ _ => rfl)) pa_nil)) pa_nil))) pa_nil))))
          pss_nil))))))
      (pss_one (ps_ret (pe_fn o__law_parts_of hr (pa_cons (pv 1) (pa_cons (pv 3) (pa_cons (pv 4) pa_nil)))))))))), ?_⟩
    refine ⟨_, rfl, src, rfl, ok, fun zv H1 z hm sd1 ok1 hz => ?_⟩
    have zok := menu_ok z hm
    have z2 := zok.s
    have z3 := zok.a
    have z4 := zok.m
    refine ⟨_, rfl, src, 4, rfl, ok1, by omega, by omega, fun r H2 hr sd2 ok2 => ⟨_, _, rfl, rfl, ?_⟩⟩
    have many4 : 1 + r ≤ 4 := by omega
    have many1 : 1 ≤ 1 + r := by omega
    obtain ⟨many, hmany⟩ : ∃ many : Nat, many = 1 + r := ⟨_, rfl⟩
    have hint : (1 : Int) + (r : Int) = (many : Int) := by omega
    refine ⟨_, rfl, _, rfl, _, rfl, src, zv, z, many, by show [V.ref src, zv, V.int (1 + (r : Int))] ++ [] = _; rw [hint]; rfl, ok2, hz.sd sd2 ok1.ntup, zok, by omega, by omega, fun lr H3 am ac rm rc mv cl hlr g ml cll mok cok => ?_⟩
    refine ⟨lr, _, rfl, SqL.of hlr, rfl, _, _, rfl, _, _, rfl, rfl, ?_⟩
    have hz2 : Is H2 z zv := hz.sd sd2 ok1.ntup
    refine ⟨_, rfl, (many : Int), by show [V.int (1 + (r : Int))] = _; rw [hint], by omega, by omega, ?_⟩
    rw [Int.toNat_natCast]
    refine for_range (lo := 0) (n := many) (fun k σ H' => (∃ u5 u6 u7 : Option V, σ = [some (.ref src), some zv, some (.int (1 + (r : Int))), some (.ref am), some (.ref ac), u5, u6, u7]) ∧ ∃ mv cl, Gen H2 H' src am ac rm rc mv cl ∧ KRows (MvOk z many) many z.s 6 k z.s z.s mv ∧ KRows (fun l => l < z.m) many 1 2 k 1 1 cl)
      ⟨⟨none, none, none, rfl⟩, mv, cl, g, KRows.start ml mok, KRows.start cll cok⟩ ?_ ?_
    · rintro k σ H4 hk ⟨⟨u5, u6, u7, rfl⟩, mv, cl, g4, kM, kC⟩
      have e0 : (0 : Int) + ((k : Nat) : Int) = ((k : Nat) : Int) := by omega
      refine ⟨_, rfl, src, 3, rfl, g4.ok, by omega, by omega, fun r5 H5 hr5 sd5 ok5 => ⟨r5, rfl, by omega, by omega, ?_⟩⟩
      rw [Int.toNat_natCast]
      refine for_range (lo := 0) (n := r5) (fun t σ H' => (∃ u6 u7 : Option V, σ = [some (.ref src), some zv, some (.int (1 + (r : Int))), some (.ref am), some (.ref ac), some (.int (0 + (k : Int))), u6, u7]) ∧ ∃ mv, Gen H2 H' src am ac rm rc mv cl ∧ KRows (MvOk z many) many z.s 6 k 1 (z.s + t) mv)
        ⟨⟨u6, u7, rfl⟩, mv, g4.step sd5 ok5, kM.wide z2.1 (Nat.le_refl _)⟩ ?_ ?_
      · rintro t σ H6 ht ⟨⟨u6, u7, rfl⟩, mv, g6, kM6⟩
        have hz6 : Is H6 z zv := hz2.sd g6.sd ok2.ntup
        refine ⟨_, rfl, _, rfl, _, 0, _, hz6, rfl, rfl, fun v1 h1 => ?_⟩
        rw [dat_num] at h1
        subst h1
        refine ⟨src, z.s, rfl, g6.ok, by omega, by omega, fun ra H7 hra sd7 ok7 => ?_⟩
        have hz7 := hz6.sd sd7 g6.ok.ntup
        refine ⟨_, rfl, _, rfl, _, 1, _, hz7, rfl, rfl, fun v2 h2 => ?_⟩
        rw [dat_num] at h2
        subst h2
        refine ⟨src, z.a, rfl, ok7, by omega, by omega, fun rb H8 hrb sd8 ok8 => ?_⟩
        have hz8 := hz7.sd sd8 ok7.ntup
        refine ⟨_, rfl, _, rfl, _, 2, _, hz8, rfl, rfl, fun v3 h3 => ?_⟩
        rw [dat_num] at h3
        subst h3
        refine ⟨src, z.m, rfl, ok8, by omega, by omega, fun rc' H9 hrc sd9 ok9 => ?_⟩
        refine ⟨[.num ra, .num rb, .num rc'], dats_cons (dat_num.mpr rfl) (dats_cons (dat_num.mpr rfl) (dats_cons (dat_num.mpr rfl) dats_nil)), by show 3 ≤ sizeLine; rw [sizeLine_eq]; omega, fun sv H10 s10 h10 => ?_⟩
        have sd610 : Sd src H6 H10 := ((sd7.trans sd8).trans sd9).trans (Same.sd s10)
        have g10 := g6.step sd610 (ok9.same s10)
        have hk2 : k < mv.length := by
          rw [kM6.len]
          exact hk
        obtain ⟨l, l1, l2⟩ := g10.rowM.row k mv[k] (List.getElem?_eq_getElem hk2)
        obtain ⟨c1, c2, c3, c4⟩ := kM6.row k mv[k] (List.getElem?_eq_getElem hk2)
        have c3 := c3 rfl
        generalize mv[k] = row at l2 c1 c2 c3 c4
        obtain ⟨rv, hrv⟩ := lsd_nd l2
        refine ⟨_, rfl, _, rfl, am, _, _, V.ref l, rfl, rfl, SqL.of g10.rowM.at_, by rw [e0]; exact atI_nat (by rw [List.getElem?_map, l1]; rfl), .inl ⟨rfl, _, SqL.of hrv⟩, _, rfl, _, rfl, _, rfl, src, many, by show [V.ref src, V.int (1 + (r : Int))] ++ [] = _; rw [hint]; rfl, g10.ok, by omega, by omega, fun rd H11 hrd sd11 ok11 => ?_⟩
        refine ⟨[.num rd], dats_cons (dat_num.mpr rfl) dats_nil, by show 1 ≤ sizeLine; rw [sizeLine_eq]; omega, fun tv H12 s12 h12 => ?_⟩
        have g12 := (g10.step sd11 ok11).step (Same.sd s12) (ok11.same s12)
        have h10' := (h10.sd sd11 g10.ok.ntup).same s12
        refine ⟨_, _, h10', h12, by show 3 + 1 ≤ sizeLine; rw [sizeLine_eq]; omega, fun mvv H13 s13 h13 => ?_⟩
        have g13 := g12.step (Same.sd s13) (g12.ok.same s13)
        have nls : l ≠ src := fun e => g10.ap.s3 (e ▸ List.mem_of_getElem? l1)
        have l213 : Ls H13 l row := ((lsd_sd l2 nls sd11 g10.ok.ntup).same s12).same s13
        refine ⟨l, _, enc (⟨ra, rb, rc', rd⟩ : Mv), mvv, rfl, rfl, l213, h13, by rw [List.length_map, sizeLine_eq]; omega, fun H14 a14 l14 => ?_⟩
        have ls14 : Ls H14 l (row ++ [⟨ra, rb, rc', rd⟩]) := lsd_app (ys := [(⟨ra, rb, rc', rd⟩ : Mv)]) l14
        refine ⟨⟨_, _, rfl⟩, _, g13.setM l1 a14 ls14 l213.ntup, kM6.set (fun m hm => ?_) (by rw [List.length_append, List.length_singleton]; omega) (by rw [List.length_append, List.length_singleton]; omega)⟩
        rcases List.mem_append.mp hm with h | h
        · exact c1 m h
        · rw [List.mem_singleton] at h
          subst h
          exact ⟨hra, hrb, hrc, hrd⟩
      · rintro σ H6 ⟨⟨u6, u7, rfl⟩, mv, g6, kM6⟩
        refine ⟨_, rfl, src, 2, rfl, g6.ok, by omega, by omega, fun r7 H7 hr7 sd7 ok7 => ⟨r7, rfl, by omega, by omega, ?_⟩⟩
        rw [Int.toNat_natCast]
        refine for_range (lo := 0) (n := r7) (fun t σ H' => (∃ u6 u7 : Option V, σ = [some (.ref src), some zv, some (.int (1 + (r : Int))), some (.ref am), some (.ref ac), some (.int (0 + (k : Int))), u6, u7]) ∧ ∃ cl, Gen H2 H' src am ac rm rc mv cl ∧ KRows (fun l => l < z.m) many 1 2 k 1 (1 + t) cl)
          ⟨⟨u6, u7, rfl⟩, cl, g6.step sd7 ok7, kC.wide (Nat.le_refl _) (Nat.le_refl _)⟩ ?_ ?_
        · rintro t σ H8 ht ⟨⟨u6, u7, rfl⟩, cl, g8, kC8⟩
          have hz8 : Is H8 z zv := hz2.sd g8.sd ok2.ntup
          have hk2 : k < cl.length := by
            rw [kC8.len]
            exact hk
          obtain ⟨l, l1, l2⟩ := g8.rowC.row k cl[k] (List.getElem?_eq_getElem hk2)
          obtain ⟨c1, c2, c3, c4⟩ := kC8.row k cl[k] (List.getElem?_eq_getElem hk2)
          have c3 := c3 rfl
          generalize cl[k] = row at l2 c1 c2 c3 c4
          obtain ⟨rv, hrv⟩ := lsd_nd l2
          refine ⟨_, rfl, _, rfl, ac, _, _, V.ref l, rfl, rfl, SqL.of g8.rowC.at_, by rw [e0]; exact atI_nat (by rw [List.getElem?_map, l1]; rfl), .inl ⟨rfl, _, SqL.of hrv⟩, _, rfl, _, rfl, _, 2, _, hz8, rfl, rfl, fun v3 h3 => ?_⟩
          rw [dat_num] at h3
          subst h3
          refine ⟨src, z.m, rfl, g8.ok, by omega, by omega, fun rd H9 hrd sd9 ok9 => ?_⟩
          have g9 := g8.step sd9 ok9
          have nls : l ≠ src := fun e => g8.ap.s4 (e ▸ List.mem_of_getElem? l1)
          have l29 : Ls H9 l row := lsd_sd l2 nls sd9 g8.ok.ntup
          refine ⟨l, _, enc rd, _, rfl, rfl, l29, is_nat.mpr rfl, by rw [List.length_map, sizeLine_eq]; omega, fun H10 a10 l10 => ?_⟩
          have ls10 : Ls H10 l (row ++ [rd]) := lsd_app (ys := [rd]) l10
          refine ⟨⟨_, _, rfl⟩, _, g9.setC l1 a10 ls10 l29.ntup, kC8.set (fun m hm => ?_) (by rw [List.length_append, List.length_singleton]; omega) (by rw [List.length_append, List.length_singleton]; omega)⟩
          rcases List.mem_append.mp hm with h | h
          · exact c1 m h
          · rw [List.mem_singleton] at h
            exact h ▸ hrd
        · rintro σ H8 ⟨⟨u6, u7, rfl⟩, cl, g8, kC8⟩
          have hk2 : k < mv.length := by
            rw [kM6.len]
            exact hk
          have hk3 : k < cl.length := by
            rw [kC8.len]
            exact hk
          refine ⟨_, rfl, src, 5, rfl, g8.ok, by omega, by omega, fun r9 H9 hr9 sd9 ok9 => ⟨rfl, _, rfl, ?_⟩⟩
          have g9 := g8.step sd9 ok9
          by_cases h90 : r9 = 0
          · subst h90
            refine iteT' (by decide) ?_
            obtain ⟨l, l1, l2⟩ := g9.rowM.row k mv[k] (List.getElem?_eq_getElem hk2)
            obtain ⟨c1, c2, c3, c4⟩ := kM6.row k mv[k] (List.getElem?_eq_getElem hk2)
            have c3 := c3 rfl
            generalize mv[k] = row at l2 c1 c2 c3 c4
            obtain ⟨rv, hrv⟩ := lsd_nd l2
            refine ⟨_, rfl, _, rfl, am, _, _, V.ref l, rfl, rfl, SqL.of g9.rowM.at_, by rw [e0]; exact atI_nat (by rw [List.getElem?_map, l1]; rfl), .inl ⟨rfl, _, SqL.of hrv⟩, _, rfl, _, rfl, _, rfl, am, _, _, V.ref l, rfl, rfl, SqL.of g9.rowM.at_, by rw [e0]; exact atI_nat (by rw [List.getElem?_map, l1]; rfl), _, _, rfl, .inr ⟨l, rfl, l2⟩, src, (row.map enc).length, rfl, g9.ok, by rw [List.length_map]; omega, by rw [List.length_map]; omega, fun rp H10 hrp sd10 ok10 => ?_⟩
            have nls : l ≠ src := fun e => g9.ap.s3 (e ▸ List.mem_of_getElem? l1)
            have l210 : Ls H10 l row := lsd_sd l2 nls sd10 g9.ok.ntup
            refine ⟨l, _, rp, rfl, rfl, l210, hrp, by rw [List.length_map]; omega, fun pv' H11 a11 l11 => ?_⟩
            rw [erase_map] at l11
            rw [List.length_map] at hrp
            have el := List.length_eraseIdx_of_lt hrp
            have g11 := (g9.step sd10 ok10).setM l1 a11 l11 l210.ntup
            have k11 := kM6.set (row := row.eraseIdx rp) (lo2 := 0) (hi2 := 6) (fun m hm => c1 m (List.mem_of_mem_eraseIdx hm)) (Nat.zero_le _) (by omega)
            refine ⟨_, rfl, src, 5, rfl, g11.ok, by omega, by omega, fun rq Hq hrq sdq okq => ⟨rfl, _, rfl, ?_⟩⟩
            have gq := g11.step sdq okq
            by_cases hq0 : rq = 0
            · subst hq0
              refine iteT' (by decide) ?_
              obtain ⟨l, l1, l2⟩ := gq.rowC.row k cl[k] (List.getElem?_eq_getElem hk3)
              obtain ⟨c1, c2, c3, c4⟩ := kC8.row k cl[k] (List.getElem?_eq_getElem hk3)
              have c3 := c3 rfl
              generalize cl[k] = row at l2 c1 c2 c3 c4
              obtain ⟨rv, hrv⟩ := lsd_nd l2
              refine ⟨_, rfl, _, rfl, ac, _, _, V.ref l, rfl, rfl, SqL.of gq.rowC.at_, by rw [e0]; exact atI_nat (by rw [List.getElem?_map, l1]; rfl), .inl ⟨rfl, _, SqL.of hrv⟩, _, rfl, _, rfl, _, rfl, ac, _, _, V.ref l, rfl, rfl, SqL.of gq.rowC.at_, by rw [e0]; exact atI_nat (by rw [List.getElem?_map, l1]; rfl), _, _, rfl, .inr ⟨l, rfl, l2⟩, src, (row.map enc).length, rfl, gq.ok, by rw [List.length_map]; omega, by rw [List.length_map]; omega, fun rp Hp' hrp sdp okp => ?_⟩
              have nls : l ≠ src := fun e => gq.ap.s4 (e ▸ List.mem_of_getElem? l1)
              have l2p : Ls Hp' l row := lsd_sd l2 nls sdp gq.ok.ntup
              refine ⟨l, _, rp, rfl, rfl, l2p, hrp, by rw [List.length_map]; omega, fun pv' Hr ar lr' => ?_⟩
              rw [erase_map] at lr'
              rw [List.length_map] at hrp
              have el := List.length_eraseIdx_of_lt hrp
              exact ⟨⟨_, _, _, rfl⟩, _, _, (gq.step sdp okp).setC l1 ar lr' l2p.ntup, k11.next (by omega), (kC8.set (row := row.eraseIdx rp) (lo2 := 0) (hi2 := 2) (fun m hm => c1 m (List.mem_of_mem_eraseIdx hm)) (Nat.zero_le _) (by omega)).next (by omega)⟩
            · refine iteF' (decide_eq_false fun e => hq0 (by injection e with e; omega)) ?_
              exact ⟨⟨_, _, _, rfl⟩, _, _, gq, k11.next (by omega), kC8.next (by omega)⟩
          · refine iteF' (decide_eq_false fun e => h90 (by injection e with e; omega)) ?_
            refine ⟨_, rfl, src, 5, rfl, g9.ok, by omega, by omega, fun rq Hq hrq sdq okq => ⟨rfl, _, rfl, ?_⟩⟩
            have gq := g9.step sdq okq
            by_cases hq0 : rq = 0
            · subst hq0
              refine iteT' (by decide) ?_
              obtain ⟨l, l1, l2⟩ := gq.rowC.row k cl[k] (List.getElem?_eq_getElem hk3)
              obtain ⟨c1, c2, c3, c4⟩ := kC8.row k cl[k] (List.getElem?_eq_getElem hk3)
              have c3 := c3 rfl
              generalize cl[k] = row at l2 c1 c2 c3 c4
              obtain ⟨rv, hrv⟩ := lsd_nd l2
              refine ⟨_, rfl, _, rfl, ac, _, _, V.ref l, rfl, rfl, SqL.of gq.rowC.at_, by rw [e0]; exact atI_nat (by rw [List.getElem?_map, l1]; rfl), .inl ⟨rfl, _, SqL.of hrv⟩, _, rfl, _, rfl, _, rfl, ac, _, _, V.ref l, rfl, rfl, SqL.of gq.rowC.at_, by rw [e0]; exact atI_nat (by rw [List.getElem?_map, l1]; rfl), _, _, rfl, .inr ⟨l, rfl, l2⟩, src, (row.map enc).length, rfl, gq.ok, by rw [List.length_map]; omega, by rw [List.length_map]; omega, fun rp Hp' hrp sdp okp => ?_⟩
              have nls : l ≠ src := fun e => gq.ap.s4 (e ▸ List.mem_of_getElem? l1)
              have l2p : Ls Hp' l row := lsd_sd l2 nls sdp gq.ok.ntup
              refine ⟨l, _, rp, rfl, rfl, l2p, hrp, by rw [List.length_map]; omega, fun pv' Hr ar lr' => ?_⟩
              rw [erase_map] at lr'
              rw [List.length_map] at hrp
              have el := List.length_eraseIdx_of_lt hrp
              exact ⟨⟨_, _, _, rfl⟩, _, _, (gq.step sdp okp).setC l1 ar lr' l2p.ntup, kM6.next (by omega), (kC8.set (row := row.eraseIdx rp) (lo2 := 0) (hi2 := 2) (fun m hm => c1 m (List.mem_of_mem_eraseIdx hm)) (Nat.zero_le _) (by omega)).next (by omega)⟩
            · refine iteF' (decide_eq_false fun e => hq0 (by injection e with e; omega)) ?_
              exact ⟨⟨_, _, _, rfl⟩, _, _, gq, kM6.next (by omega), kC8.next (by omega)⟩
    · rintro σ H4 ⟨⟨u5, u6, u7, rfl⟩, mv, cl, g4, kM, kC⟩
      have dM := kM.done
      have dC := kC.done
      refine ⟨_, rfl, _, rfl, _, rfl, zv, am, ac, rm, rc, z, mv, cl, rfl, hz2.sd g4.sd ok2.ntup, zok, g4.rowM, g4.rowC, by rw [kM.len]; omega, by rw [kM.len]; omega, by rw [kM.len, kC.len], fun row hrow => ?_, fun row hrow => dC row hrow, fun v H6 p s6 pok pz hp => ?_⟩
      · rw [kM.len]
        exact dM row hrow
      · exact q v H6 p (pz ▸ hm) pok (((sd1.trans sd2).trans g4.sd).trans (Same.sd s6)) (g4.ok.same s6) hp
theorem ok_law_parts (o__law_draw : Ok P w K mg base 1 "_law_draw" ["_law_source_here", "_law_many"] spDraw) (o__law_sure_parts : Ok P w K mg base 3 "_law_sure_parts" ["_law_source_here"] spParts) (o__law_loose_parts : Ok P w K mg base 3 "_law_loose_parts" ["_law_source_here"] spParts)
    (d : Df K mg "_law_parts" "_law_parts" s__law_parts ["_law_source_here"]) : Ok P w K mg base 4 "_law_parts" ["_law_source_here"] spParts := by
  refine d.ok sc__law_parts (fun vs H Q E h => ?_) (fun f cdv A outer s H vs Q E hr h => ?_)
  · obtain ⟨src, rfl, _⟩ := h
    rfl
  · obtain ⟨src, rfl, ok, q⟩ := h
    refine ⟨_, (pss_one (ps_ret (pe_ifExp (pt_cmpR op_eq (pe_fn o__law_draw hr (pa_cons (pv 0) (pa_cons pe_int pa_nil))) pe_int (nomark _)) (pe_fn o__law_sure_parts hr (pa_cons (pv 0) pa_nil)) (pe_fn o__law_loose_parts hr (pa_cons (pv 0) pa_nil))))), ?_⟩
    refine ⟨_, rfl, src, 3, rfl, ok, by omega, by omega, fun r H1 hr sd1 ok1 => ⟨rfl, _, rfl, ?_⟩⟩
    by_cases h0 : r = 0
    · subst h0
      exact iteT' (by decide) ⟨_, rfl, src, rfl, ok1, fun v H2 p pm pok sd2 ok2 hp => q v H2 p pm pok (sd1.trans sd2) ok2 hp⟩
    · exact iteF' (decide_eq_false fun e => h0 (by injection e with e; omega)) ⟨_, rfl, src, rfl, ok1, fun v H2 p pm pok sd2 ok2 hp => q v H2 p pm pok (sd1.trans sd2) ok2 hp⟩
end
end Fd

/-! How many people; a lot. -/
namespace Fd
open PySem PySem.Spec PyProof.Rows L2
open Enc (enc)
abbrev s__law_people : Stmt := topS 61
theorem sc__law_people : FnScope ["_law_source_here", "_law_sizes_here", "_law_most", "_law_one", "_law_many", "_law_number", "_law_turn"] ["_law_source_here", "_law_sizes_here", "_law_most"] (defScope s__law_people) := ⟨rfl, rfl, rfl, by decide +kernel, rfl, by decide +kernel, by decide +kernel⟩
abbrev s__law_lot : Stmt := topS 67
theorem sc__law_lot : FnScope ["_law_source_here", "_law_many", "_law_place"] ["_law_source_here", "_law_many"] (defScope s__law_lot) := ⟨rfl, rfl, rfl, by decide +kernel, rfl, by decide +kernel, by decide +kernel⟩
def one (z : Sz) : Nat := z.s * z.a * z.m
structure FitsZ (z : Sz) (n : Nat) : Prop where
  lo : 1 ≤ n
  hi : n ≤ 6
  few : z.m * one z ^ n ≤ 400
theorem FitsZ.fits {p : Pts} {n : Nat} (h : FitsZ p.z n) : Fits p n := ⟨h.lo, h.hi, h.few⟩
theorem fitsZ_of {z : Sz} (hm : z ∈ menu) {k n : Nat} (hk : k ≤ 6) (few : k = 0 ∨ z.m * one z ^ k ≤ 400) (n1 : 1 ≤ n) (n2 : n ≤ max 1 k) : FitsZ z n := by
  refine ⟨n1, by omega, ?_⟩
  have zok := menu_ok z hm
  have pos : 1 ≤ one z := by
    have h1 := zok.s.1
    have h2 := zok.a.1
    have h3 := zok.m.1
    have : 1 * 1 * 1 ≤ z.s * z.a * z.m := Nat.mul_le_mul (Nat.mul_le_mul h1 h2) h3
    simpa [one] using this
  rcases few with rfl | few
  · have e : n = 1 := by omega
    subst e
    rw [Nat.pow_one]
    exact menu_one z hm
  · by_cases h : n ≤ k
    · exact Nat.le_trans (Nat.mul_le_mul_left _ (Nat.pow_le_pow_right pos h)) few
    · have e : n = 1 := by omega
      subst e
      rw [Nat.pow_one]
      exact menu_one z hm
section
variable {P : Program} {w : World} {K : PySem.W.Frag} {mg : Str → Option Value} {base : Heap}
def spPeople : Sp := fun vs H Q _ => ∃ (src : Addr) (zv : V) (z : Sz), vs = [.ref src, zv, .int 400] ∧ SrcOk H src ∧ Is H z zv ∧ z ∈ menu ∧ ∀ (n : Nat) H', FitsZ z n → Sd src H H' → SrcOk H' src → Q (.int n) H'
theorem ok_law_people (B : Bi mg) (o__law_draw : Ok P w K mg base 1 "_law_draw" ["_law_source_here", "_law_many"] spDraw) (d : Df K mg "_law_people" "_law_people" s__law_people ["_law_source_here", "_law_sizes_here", "_law_most"]) :
    Ok P w K mg base 2 "_law_people" ["_law_source_here", "_law_sizes_here", "_law_most"] spPeople := by
  refine d.ok sc__law_people (fun vs H Q E h => ?_) (fun f cdv A outer s H vs Q E hr h => ?_)
  · obtain ⟨src, zv, z, rfl, _⟩ := h
    rfl
  · obtain ⟨src, zv, z, rfl, ok, hz, hm, q⟩ := h
    refine ⟨_, (pss_cons (pss 3 sc__law_people.nd (pe_op op_mul (pe_op op_mul (pe_ix ix_dat (pv 1) pe_int (fun _ _ => rfl)) (pe_ix ix_dat (pv 1) pe_int (fun _ _ => rfl))) (pe_ix ix_dat (pv 1) pe_int (fun _ _ => rfl))))
      (pss_cons (pss 4 sc__law_people.nd pe_int)
      (pss_cons (pss 5 sc__law_people.nd (pe_ix ix_dat (pv 1) pe_int (fun _ _ => rfl)))
      (pss_cons (ps_for PassesOwn.never rfl (pi_range1 rfl B.range (pa_cons pe_int pa_nil)) (pgn 6 sc__law_people.nd)
        (pss_one (ps_if (pt_cmpR op_le (pe_op op_mul (pv 5) (pv 3)) (pv 2) (nomark _))
          (pss_cons (pss 5 sc__law_people.nd (pe_op op_mul (pv 5) (pv 3)))
          (pss_one (pss 4 sc__law_people.nd (pe_op op_add (pv 4) pe_int))))
          pss_nil)))
      (pss_one (ps_ret (pe_ifExp (pt_cmpR op_gt (pe_fn o__law_draw hr (pa_cons (pv 0) (pa_cons pe_int pa_nil))) pe_int (nomark _)) (pe_callB (call_max2 rfl) (by rfl) B.max (by decide +kernel) (pa_cons pe_int (pa_cons (pv 4) pa_nil))) (pe_op op_add pe_int (pe_fn o__law_draw hr (pa_cons (pv 0) (pa_cons (pe_callB (call_max2 rfl) (by rfl) B.max (by decide +kernel) (pa_cons pe_int (pa_cons (pv 4) pa_nil))) pa_nil))))))))))), ?_⟩
    have zok := menu_ok z hm
    have z1 := zok.s
    have z2 := zok.a
    have z3 := zok.m
    have o27 : one z ≤ 27 := by
      have : z.s * z.a * z.m ≤ 3 * 3 * 3 := Nat.mul_le_mul (Nat.mul_le_mul z1.2 z2.2) z3.2
      simpa [one] using this
    refine ⟨_, rfl, _, 0, _, hz, rfl, rfl, fun v1 h1 => ⟨_, rfl, _, 1, _, hz, rfl, rfl, fun v2 h2 => ?_⟩⟩
    rw [dat_num] at h1 h2
    subst h1 h2
    refine ⟨_, _, rfl, rfl, .inr ⟨by omega, by omega⟩, _, rfl, _, 2, _, hz, rfl, rfl, fun v3 h3 => ?_⟩
    rw [dat_num] at h3
    subst h3
    refine ⟨_, _, rfl, rfl, .inr ⟨by omega, by omega⟩, ?_⟩
    refine ⟨_, rfl, _, 2, _, hz, rfl, rfl, fun v4 h4 => ?_⟩
    rw [dat_num] at h4
    subst h4
    have eone : (z.s : Int) * (z.a : Int) * (z.m : Int) = ((one z : Nat) : Int) := by
      unfold one
      simp only [Int.natCast_mul]
    refine ⟨6, rfl, by decide, by decide, ?_⟩
    refine for_range (lo := 0) (n := 6) (fun i σ H' => H' = H ∧ ∃ (k : Nat) (u6 : Option V), σ = [some (.ref src), some zv, some (.int 400), some (.int ((z.s : Int) * (z.a : Int) * (z.m : Int))), some (.int k), some (.int ((z.m * one z ^ k : Nat) : Int)), u6] ∧ k ≤ i ∧ (k = 0 ∨ z.m * one z ^ k ≤ 400))
      ⟨rfl, 0, none, by rw [Nat.pow_zero, Nat.mul_one]; rfl, Nat.le_refl 0, .inl rfl⟩ ?_ ?_
    · rintro i σ H1 hi ⟨rfl, k, u6, rfl, ki, few⟩
      have nx : ((z.m * one z ^ k : Nat) : Int) * ((z.s : Int) * (z.a : Int) * (z.m : Int)) = ((z.m * one z ^ (k + 1) : Nat) : Int) := by
        rw [eone, Nat.pow_succ, ← Nat.mul_assoc, Int.natCast_mul (z.m * one z ^ k)]
      have sm : CMul ((z.m * one z ^ k : Nat) : Int) ((z.s : Int) * (z.a : Int) * (z.m : Int)) := by
        rw [eone]
        exact .inr ⟨by omega, by omega⟩
      refine ⟨_, rfl, _, rfl, _, _, rfl, rfl, sm, _, rfl, _, _, rfl, rfl, _, rfl, ?_⟩
      show (if decide (((z.m * one z ^ k : Nat) : Int) * ((z.s : Int) * (z.a : Int) * (z.m : Int)) ≤ 400) = true then _ else _)
      by_cases h : z.m * one z ^ (k + 1) ≤ 400
      · refine iteT' (by rw [nx]; exact decide_eq_true (by omega)) ⟨_, rfl, _, rfl, _, _, rfl, rfl, sm, _, rfl, _, _, rfl, rfl, rfl, k + 1, some (.int (0 + (i : Int))), ?_, by omega, .inr h⟩
        show [some (V.ref src), some zv, some (V.int 400), some (V.int ((z.s : Int) * (z.a : Int) * (z.m : Int))), some (V.int ((k : Int) + 1)), some (V.int (((z.m * one z ^ k : Nat) : Int) * ((z.s : Int) * (z.a : Int) * (z.m : Int)))), some (V.int (0 + (i : Int)))] = _
        rw [nx]
        rfl
      · exact iteF' (by rw [nx]; exact decide_eq_false (by omega)) ⟨rfl, k, _, rfl, by omega, few⟩
    · rintro σ H1 ⟨rfl, k, u6, rfl, ki, few⟩
      refine ⟨_, rfl, src, 3, rfl, ok, by omega, by omega, fun r H2 hr sd2 ok2 => ⟨_, _, rfl, rfl, _, rfl, ?_⟩⟩
      have mx : (if (k : Int) > 1 then (k : Int) else 1) = ((max 1 k : Nat) : Int) := by
        split <;> omega
      by_cases h0 : 0 < r
      · refine iteT' (decide_eq_true (by omega)) ⟨_, rfl, _, _, rfl, ?_⟩
        show Q (.int (if (k : Int) > 1 then (k : Int) else 1)) H2
        rw [mx]
        exact q _ H2 (fitsZ_of hm ki few (by omega) (Nat.le_refl _)) sd2 ok2
      · refine iteF' (decide_eq_false (by omega)) ⟨_, rfl, _, rfl, _, _, rfl, src, max 1 k, ?_, ok2, by omega, by omega, fun r3 H3 hr3 sd3 ok3 => ⟨_, _, rfl, rfl, ?_⟩⟩
        · show [V.ref src, V.int (if (k : Int) > 1 then (k : Int) else 1)] ++ [] = _
          rw [mx]
          rfl
        · show Q (.int (1 + (r3 : Int))) H3
          rw [cast_one]
          exact q _ H3 (fitsZ_of hm ki few (by omega) (by omega)) (sd2.trans sd3) ok3
/-- some of a row of numbers, by draws -/
theorem lc_sub {J : It} {ns : List Nat} {ys : List V} {G : Hp → Prop} (wk : Walk J ys.length G (YAt ys)) (hy : ys = ns.map fun n : Nat => V.int ((n : Nat) : Int)) {j : Nat} {tt : TT} {σ : L2.St} {H1 : Hp} {D src : Addr} {Qd : Hp → Prop} (hz : ys.length ≤ 1000) (hD : H1 D = none) (ok : SrcOk H1 src)
    (p : Nat → Prop) (hG : ∀ H, Sd src H1 H → G H) (hv : ∀ u : V, ((wipe σ [j]).set j (some u))[j]? = some (some u))
    (ht : ∀ (i n : Nat) (H : Hp), ns[i]? = some n → Sd src H1 H → SrcOk H src → ∀ Q : Bool → Hp → Prop, (∀ b H', (b = true → p n) → Sd src H H' → SrcOk H' src → Q b H') → tt ((wipe σ [j]).set j (some (.int (n : Nat)))) H Q)
    (hQ : ∀ H' (xs : List Nat), Sd src H1 H' → SrcOk H' src → xs.Sublist ns → (∀ x ∈ xs, p x) → Ls H' D xs → Qd H') :
    ∃ W : Nat → Nat → Hp → Prop, (∃ m, W 0 m (upd H1 D (.lst []))) ∧ ∀ i m H, W i m H →
      (J.stop i H ∧ Qd H) ∨ (J.go i H ∧ ∃ Nx : Hp → Prop, (∀ H', Nx H' → ∃ m', m' < m ∧ W (i + 1) m' H') ∧ ∀ x H', J.yld i H x H' → gName j x (wipe σ [j]) H' fun σ2 H2 => wipe σ2 [j] = wipe σ [j] ∧ tt σ2 H2 fun b H3 =>
        if b = true then tVar j σ2 H3 fun y H4 => ∃ acc, H4 D = some (.lst acc) ∧ acc.length < sizeLine ∧ Nx (upd H4 D (.lst (acc ++ [y]))) else Nx H3) := by
  have nDs : D ≠ src := fun z => ok.some (z ▸ hD)
  have len : ys.length = ns.length := by rw [hy, List.length_map]
  refine lc_it wk (fun i H => Sd src H1 H ∧ SrcOk H src ∧ ∃ xs : List Nat, xs.Sublist (ns.take i) ∧ (∀ x ∈ xs, p x) ∧ Ls H D xs) ⟨Same.sd (same_new hD), ok.same (same_new hD), [], List.nil_sublist _, fun x h => (nomatch h), [], upd_same, dats_nil⟩ (fun i H _ p => hG H p.1) ?_ fun H ⟨sd, ok, xs, sub, px, ls⟩ => hQ H xs sd ok (by rw [len, List.take_length] at sub; exact sub) px ls
  rintro i x H H' hi ⟨sd, okH, xs, sub, px, acc, hacc, hda⟩ ⟨rfl, hx⟩
  rw [hy, List.getElem?_map] at hx
  obtain ⟨n, hn, rfl⟩ := Option.map_eq_some_iff.mp hx
  refine ⟨wipe_one, ht i n H' hn sd okH _ fun b H3 hb sd3 ok3 => ?_⟩
  have tk := take_snoc hn
  have h3 : H3 D = some (.lst acc) := sd3 _ _ hacc nDs
  have hd3 := hda.sd sd3 okH.ntup
  cases b with
  | false =>
    refine iteF ⟨sd.trans sd3, ok3, xs, ?_, px, acc, h3, hd3⟩
    rw [tk]
    exact sub.trans (List.sublist_append_left _ _)
  | true =>
    have hl := dats_len hd3
    rw [List.length_map] at hl
    have sl := sub.length_le
    rw [List.length_take] at sl
    refine iteT ⟨_, hv _, acc, h3, by rw [sizeLine_eq]; omega, sd_at1 (sd.trans sd3) at1_upd hD, ok3.at (upd_ne nDs.symm), xs ++ [n], ?_, fun x hx => ?_, _, upd_same, ?_⟩
    · rw [tk]
      exact sub.append (List.Sublist.refl _)
    · rcases List.mem_append.mp hx with h | h
      · exact px x h
      · rw [List.mem_singleton] at h
        exact h ▸ hb rfl
    · rw [List.map_append]
      exact Dats.mono (tx_lst h3) _ _ (dats_app hd3 (dats_cons (is_int n) dats_nil))
theorem rngV_nats (n : Nat) : rngV n = (List.range n).map fun n : Nat => V.int ((n : Nat) : Int) := rfl
theorem lot_sub {n : Nat} (hn : n ≤ 1000) {xs : List Nat} (h : xs.Sublist (List.range n)) : LotOk n xs :=
  ⟨List.pairwise_lt_range.sublist h, fun p hp => List.mem_range.mp (h.subset hp), by have := h.length_le; rw [List.length_range] at this; omega⟩
def spLot : Sp := fun vs H Q _ => ∃ (src : Addr) (n : Nat), vs = [.ref src, .int n] ∧ SrcOk H src ∧ 1 ≤ n ∧ n ≤ 6 ∧ ∀ v H' (lot : List Nat), Sd src H H' → SrcOk H' src → LotOk n lot → Is H' lot v → Q v H'
theorem ok_law_lot (B : Bi mg) (o__law_draw : Ok P w K mg base 1 "_law_draw" ["_law_source_here", "_law_many"] spDraw) (d : Df K mg "_law_lot" "_law_lot" s__law_lot ["_law_source_here", "_law_many"]) :
    Ok P w K mg base 2 "_law_lot" ["_law_source_here", "_law_many"] spLot := by
  refine d.ok sc__law_lot (fun vs H Q E h => ?_) (fun f cdv A outer s H vs Q E hr h => ?_)
  · obtain ⟨src, n, rfl, _⟩ := h
    rfl
  · obtain ⟨src, n, rfl, ok, n1, n6, q⟩ := h
    refine ⟨_, (pss_one (ps_ret (pe_callTy cr_tupD (by rfl) B.tuple (by decide +kernel) (pa_cons (pe_lc (own := [("_law_place", 2)]) rfl sc__law_lot.nd (pi_range1 rfl B.range (pa_cons (pv 1) pa_nil)) (blkOk_by (N := ["_law_source_here", "_law_many", "_law_place"]) (sc := defScope s__law_lot) (by decide +kernel)) (fun _ _ _ _ _ => (pgn 2 sc__law_lot.nd)) (fun _ _ _ _ _ => (pts_one (pt_cmpR op_eq (pe_fn o__law_draw hr (pa_cons (pv 0) (pa_cons pe_int pa_nil))) pe_int (nomark _)))) (fun _ _ _ _ _ => (pv 2))) pa_nil)))), ?_⟩
    refine ⟨_, rfl, n, rfl, by omega, by omega, fun D hD => ?_⟩
    rw [Int.toNat_natCast]
    refine lc_sub walk_rng (rngV_nats n) (by rw [rngV_len]; omega) hD ok (fun _ => True) (fun _ _ => trivial) (fun u => rfl) (fun i m H1 hm sd1 ok1 Q' q' => ?_) fun H1 xs sd1 ok1 sub _ ls => ?_
    · exact ⟨_, rfl, src, 2, rfl, ok1, by omega, by omega, fun r H2 hr sd2 ok2 => ⟨rfl, _, rfl, q' _ H2 (fun _ => trivial) sd2 ok2⟩⟩
    · exact ⟨D, _, rfl, ls, fun v H2 s2 hv => q v H2 xs (sd1.trans (Same.sd s2)) (ok1.same s2) (lot_sub (by omega) sub) hv⟩
end
end Fd

/-! Webs, drawn. -/
namespace Fd
open PySem PySem.Spec PyProof.Rows L2
open Enc (enc)
abbrev s__law_tree : Stmt := topS 68
theorem sc__law_tree : FnScope ["_law_source_here", "_law_many", "_law_web_here", "_law_turn", "_law_elder", "_law_shared", "_law_fresh", "_law_rest", "_law_place", "_law_lot_here"] ["_law_source_here", "_law_many"] (defScope s__law_tree) := ⟨rfl, rfl, rfl, by decide +kernel, rfl, by decide +kernel, by decide +kernel⟩
abbrev s__law_web : Stmt := topS 69
theorem sc__law_web : FnScope ["_law_source_here", "_law_many", "_law_k"] ["_law_source_here", "_law_many"] (defScope s__law_web) := ⟨rfl, rfl, rfl, by decide +kernel, rfl, by decide +kernel, by decide +kernel⟩
/-- the names that stand in the outer of two blocks -/
abbrev sctree378 : Scope := { kind := .function, names := [(".0", .local), ("_law_place", .cell), ("any", .globalImplicit), ("_law_draw", .globalImplicit), ("_law_source_here", .cell), ("_law_web_here", .cell)], isGenerator := false, isCoroutine := false }
abbrev sctree380 : Scope := { kind := .function, names := [(".0", .local), ("_law_place", .cell), ("any", .globalImplicit), ("_law_web_here", .cell)], isGenerator := false, isCoroutine := false }
theorem list_ne {K : PySem.W.Frag} {H : Hp} {l e0 : Addr} {xs : List Nat} (h : Ls H l xs) (he : Lsd H e0 []) : ∃ d e, Dp K H (.ref l) d ∧ Dp K H (.ref e0) e ∧ SeqAt.shaped d = true ∧ SeqAt.shaped e = true ∧ (!PyData.eqv d e) = decide (xs ≠ []) := by
  obtain ⟨vs, hv, hd⟩ := h
  obtain ⟨us, hu, hd2⟩ := he
  rw [dats_of_nil hd2] at hu
  refine ⟨.list (NestedKey.datas (xs.map enc)), .list [], .lst (SqL.of hv) (Dats.dp _ _ hd), .lst (SqL.of hu) .nil, ?_, by decide, ?_⟩
  · unfold SeqAt.shaped
    have h1 : PyData.canLayAll0 (NestedKey.datas (xs.map enc)) = true := plain_lays _ (plain_map xs)
    have h2 : PyData.depthAll (NestedKey.datas (xs.map enc)) ≤ 0 := by
      rw [datas_depth]
      exact depth_map xs
    simp only [PyData.canLay0, PyData.depth, h1, Bool.true_and]
    exact decide_eq_true (by omega)
  · cases xs with
    | nil => rfl
    | cons x xs => rfl
theorem sorted_lot {n : Nat} {xs : List Nat} {ns : List Int} (nd : xs.Nodup) (lt : ∀ x ∈ xs, x < n) (hn : n ≤ 1000) (perm : ns.Perm (xs.map fun g : Nat => ((g : Nat) : Int))) (pw : ns.Pairwise (· ≤ ·)) : ∃ lot : List Nat, ns = (lot.map fun g : Nat => ((g : Nat) : Int)) ∧ LotOk n lot := by
  have up := perm_up perm pw (cast_nodup nd)
  obtain ⟨lot, er⟩ : ∃ row2 : List Nat, ns = row2.map fun n : Nat => ((n : Nat) : Int) := by
    refine ⟨ns.map Int.toNat, ?_⟩
    rw [List.map_map]
    have : ns.map id = ns.map ((fun n : Nat => ((n : Nat) : Int)) ∘ Int.toNat) := List.map_congr_left fun k hk => by
      obtain ⟨n, _, rfl⟩ := List.mem_map.mp (perm.mem_iff.mp hk)
      rfl
    rw [List.map_id] at this
    exact this
  subst er
  refine ⟨lot, rfl, ?_, fun x hx => ?_, ?_⟩
  · rw [List.pairwise_map] at up
    exact up.imp fun h => by omega
  · have h1 : ((x : Nat) : Int) ∈ xs.map fun n : Nat => ((n : Nat) : Int) := perm.mem_iff.mp (List.mem_map_of_mem hx)
    obtain ⟨m, h2, h3⟩ := List.mem_map.mp h1
    have e : m = x := by omega
    exact lt x (e ▸ h2)
  · have := perm.length_eq
    rw [List.length_map, List.length_map] at this
    have := nodup_small nd lt
    omega
theorem or_of {c : Bool} {x : V} {tb : TE} {σ : L2.St} {H : Hp} {Q : VK} (R : V → Hp → Prop) (a : c = true → R x H) (b : c = false → ∀ Q' : VK, (∀ v H', R v H' → Q' v H') → tb σ H Q') (h : ∀ v H', R v H' → Q v H') : if c = true then Q x H else tb σ H Q := by
  cases c with
  | true => exact iteT (h _ _ (a rfl))
  | false => exact iteF (b rfl Q h)
theorem nodup_of_up {xs : List Nat} (h : xs.Pairwise (· < ·)) : xs.Nodup := h.imp fun h => by omega
theorem nodup_app {xs ys : List Nat} (hx : xs.Nodup) (hy : ys.Nodup) (h : ∀ x ∈ ys, x ∉ xs) : (xs ++ ys).Nodup := by
  rw [List.nodup_append]
  exact ⟨hx, hy, fun a ha b hb e => h b hb (e ▸ ha)⟩
section
variable {P : Program} {w : World} {K : PySem.W.Frag} {mg : Str → Option Value} {base : Heap}
def spWebD : Sp := fun vs H Q _ => ∃ (src : Addr) (n : Nat), vs = [.ref src, .int n] ∧ SrcOk H src ∧ 1 ≤ n ∧ n ≤ 6 ∧ ∀ v H' (web : List (List Nat)), Sd src H H' → SrcOk H' src → WebOk n web → web.length ≤ 10 → Is H' web v → Q v H'
set_option maxHeartbeats 8000000 in
theorem ok_law_tree (B : Bi mg) (o__law_draw : Ok P w K mg base 1 "_law_draw" ["_law_source_here", "_law_many"] spDraw) (o__law_lot : Ok P w K mg base 2 "_law_lot" ["_law_source_here", "_law_many"] spLot) (d : Df K mg "_law_tree" "_law_tree" s__law_tree ["_law_source_here", "_law_many"]) :
    Ok P w K mg base 3 "_law_tree" ["_law_source_here", "_law_many"] spWebD := by
  refine d.ok sc__law_tree (fun vs H Q E h => ?_) (fun f cdv A outer s H vs Q E hr h => ?_)
  · obtain ⟨src, n, rfl, _⟩ := h
    rfl
  · obtain ⟨src, n, rfl, ok, n1, n6, q⟩ := h
    refine ⟨_, (pss_cons (pss 2 sc__law_tree.nd (pe_lstD (pa_cons (pe_orT (pe_fn o__law_lot hr (pa_cons (pv 0) (pa_cons (pv 1) pa_nil))) (pe_one (pe_tupD (pa_cons pe_int pa_nil)))) pa_nil)))
      (pss_cons (ps_for PassesOwn.never rfl (pi_range1 rfl B.range (pa_cons (pe_fn o__law_draw hr (pa_cons (pv 0) (pa_cons pe_int pa_nil))) pa_nil)) (pgn 3 sc__law_tree.nd)
        (pss_cons (pss 4 sc__law_tree.nd (pe_ix ix_lsd (pv 2) (pe_fn o__law_draw hr (pa_cons (pv 0) (pa_cons (pe_callB cr_lenD (by rfl) B.len (by decide +kernel) (pa_cons (pv 2) pa_nil)) pa_nil))) (fun _ _ => rfl)))
        (pss_cons (ps_setLc (i := 5) (own := [("_law_place", 8)]) rfl sc__law_tree.nd rfl rfl (sw_true rfl rfl rfl (by decide +kernel)) (pi_tup (pv 4)) (blkOk_by (N := ["_law_source_here", "_law_many", "_law_web_here", "_law_turn", "_law_elder", "_law_shared", "_law_fresh", "_law_rest", "_law_place", "_law_lot_here"]) (sc := defScope s__law_tree) (by decide +kernel)) (fun _ _ _ _ _ => (pgn 8 sc__law_tree.nd)) (fun _ _ _ _ _ => (pts_one (pt_cmpR op_eq (pe_fn o__law_draw hr (pa_cons (pv 0) (pa_cons pe_int pa_nil))) pe_int (nomark _)))) (fun _ _ _ _ _ => (pv 8)))
        (pss_cons (ps_setLc (i := 6) (own := [("_law_place", 8)]) rfl sc__law_tree.nd rfl rfl (sw_true rfl rfl rfl (by decide +kernel)) (pi_range1 rfl B.range (pa_cons (pv 1) pa_nil)) (blkOk_by (N := ["_law_source_here", "_law_many", "_law_web_here", "_law_turn", "_law_elder", "_law_shared", "_law_fresh", "_law_rest", "_law_place", "_law_lot_here"]) (sc := defScope s__law_tree) (by decide +kernel)) (fun _ _ _ _ _ => (pgn 8 sc__law_tree.nd)) (fun _ _ _ _ _ => (pts_one (PW.pt (pw_and (pt_not (pt_val (pe_callB (cr_anyK K rfl rfl) (by rfl) B.any (by decide +kernel) (pa_cons (pe_lc (own := [("_law_lot_here", 9)]) rfl sc__law_tree.nd (pi_listK K rfl (pv 2)) (blkOk_by (N := ["_law_source_here", "_law_many", "_law_web_here", "_law_turn", "_law_elder", "_law_shared", "_law_fresh", "_law_rest", "_law_place", "_law_lot_here"]) (sc := sctree378) (by decide +kernel)) (fun _ _ _ _ _ => (pgn 9 sc__law_tree.nd)) (fun _ _ _ _ _ => pts_nil) (fun _ _ _ _ _ => (pe_cmpR (op_inNK K rfl hr.units) (pv 8) (pv 9) (by rfl)))) pa_nil)))) (pw_and1 (pt_cmpR op_eq (pe_fn o__law_draw hr (pa_cons (pv 0) (pa_cons pe_int pa_nil))) pe_int (nomark _))))))) (fun _ _ _ _ _ => (pv 8)))
        (pss_one (ps_expr (pe_bm PySem.F.plainAttrs_list PySem.F.slot_list_append PySem.F.type_list_append mt_appD (pv 2) (pa_cons (pe_callTy cr_tupD (by rfl) B.tuple (by decide +kernel) (pa_cons (pe_callB cr_sorted (by rfl) B.sorted (by decide +kernel) (pa_cons (pe_op op_cat (pv 5) (pv 6)) pa_nil)) pa_nil)) pa_nil))))))))
      (pss_cons (ps_setLc (i := 7) (own := [("_law_place", 8)]) rfl sc__law_tree.nd rfl rfl (sw_true rfl rfl rfl (by decide +kernel)) (pi_range1 rfl B.range (pa_cons (pv 1) pa_nil)) (blkOk_by (N := ["_law_source_here", "_law_many", "_law_web_here", "_law_turn", "_law_elder", "_law_shared", "_law_fresh", "_law_rest", "_law_place", "_law_lot_here"]) (sc := defScope s__law_tree) (by decide +kernel)) (fun _ _ _ _ _ => (pgn 8 sc__law_tree.nd)) (fun _ _ _ _ _ => (pts_one (pt_not (pt_val (pe_callB (cr_anyK K rfl rfl) (by rfl) B.any (by decide +kernel) (pa_cons (pe_lc (own := [("_law_lot_here", 9)]) rfl sc__law_tree.nd (pi_listK K rfl (pv 2)) (blkOk_by (N := ["_law_source_here", "_law_many", "_law_web_here", "_law_turn", "_law_elder", "_law_shared", "_law_fresh", "_law_rest", "_law_place", "_law_lot_here"]) (sc := sctree380) (by decide +kernel)) (fun _ _ _ _ _ => (pgn 9 sc__law_tree.nd)) (fun _ _ _ _ _ => pts_nil) (fun _ _ _ _ _ => (pe_cmpR (op_inNK K rfl hr.units) (pv 8) (pv 9) (by rfl)))) pa_nil)))))) (fun _ _ _ _ _ => (pv 8)))
      (pss_cons (ps_if (PW.pt (pw_and (pt_cmpR (op_neD hr.units) (pv 7) (pe_lstD pa_nil) (nomark _)) (pw_and1 (pt_cmpR op_gt (pe_fn o__law_draw hr (pa_cons (pv 0) (pa_cons pe_int pa_nil))) pe_int (nomark _)))))
        (pss_cons (pss 4 sc__law_tree.nd (pe_ix ix_lsd (pv 2) (pe_fn o__law_draw hr (pa_cons (pv 0) (pa_cons (pe_callB cr_lenD (by rfl) B.len (by decide +kernel) (pa_cons (pv 2) pa_nil)) pa_nil))) (fun _ _ => rfl)))
        (pss_one (ps_expr (pe_bm PySem.F.plainAttrs_list PySem.F.slot_list_append PySem.F.type_list_append mt_appD (pv 2) (pa_cons (pe_callTy cr_tupD (by rfl) B.tuple (by decide +kernel) (pa_cons (pe_callB cr_sorted (by rfl) B.sorted (by decide +kernel) (pa_cons (pe_op op_cat (pe_lc (own := [("_law_place", 8)]) rfl sc__law_tree.nd (pi_tup (pv 4)) (blkOk_by (N := ["_law_source_here", "_law_many", "_law_web_here", "_law_turn", "_law_elder", "_law_shared", "_law_fresh", "_law_rest", "_law_place", "_law_lot_here"]) (sc := defScope s__law_tree) (by decide +kernel)) (fun _ _ _ _ _ => (pgn 8 sc__law_tree.nd)) (fun _ _ _ _ _ => (pts_one (pt_cmpR op_eq (pe_fn o__law_draw hr (pa_cons (pv 0) (pa_cons pe_int pa_nil))) pe_int (nomark _)))) (fun _ _ _ _ _ => (pv 8))) (pv 7)) pa_nil)) pa_nil)) pa_nil)))))
        pss_nil)
      (pss_one (ps_ret (pe_callTy cr_tupD (by rfl) B.tuple (by decide +kernel) (pa_cons (pv 2) pa_nil)))))))), ?_⟩
    refine ⟨_, rfl, _, rfl, src, n, rfl, ok, n1, n6, fun lv H1 lot sd1 ok1 lok hl => ?_⟩
    obtain ⟨a0, x0, rfl, ha0, hx0⟩ := dat_tup.mp hl
    refine ⟨!x0.isEmpty, .inr (.inl ⟨x0, SqT.of ha0, rfl⟩), ?_⟩
    refine or_of (fun v H' => ∃ lot2 : List Nat, Sd src H H' ∧ SrcOk H' src ∧ LotOk n lot2 ∧ Is H' lot2 v) (fun _ => ⟨lot, sd1, ok1, lok, hl⟩) (fun _ Q' q' => ?_) ?_
    · refine ⟨[.num 0], dats_cons (dat_num.mpr rfl) dats_nil, by show 1 ≤ sizeLine; rw [sizeLine_eq]; omega, fun v H2 s2 h2 => q' v H2 ⟨[0], sd1.trans (Same.sd s2), ok1.same s2, ⟨by simp, fun p hp => ?_, by show 1 ≤ 1000; omega⟩, h2⟩⟩
      rw [List.mem_singleton] at hp
      omega
    rintro v H2 ⟨lot2, sd2, ok2, lok2, hv⟩
    refine ⟨[enc lot2], dats_cons hv dats_nil, by show 1 ≤ sizeLine; rw [sizeLine_eq]; omega, fun wl H3 nwl a3 l3 => ?_⟩
    have s23 : Same H2 H3 := a3.same nwl
    have nws : wl ≠ src := fun z => ok2.some (z ▸ nwl)
    have nw0 : H wl = none := sd_free sd2 nwl nws
    have ok3 := ok2.same s23
    have sd3 := sd2.trans (Same.sd s23)
    refine ⟨_, rfl, src, 4, rfl, ok3, by omega, by omega, fun r4 H4 hr4 sd4 ok4 => ⟨r4, rfl, by omega, by omega, ?_⟩⟩
    rw [Int.toNat_natCast]
    -- a place that no lot has
    have anyT : ∀ (web : List (List Nat)) (H5 : Hp), Ls H5 wl web → web.length ≤ 10 → ∀ (pl : Nat) (σ : L2.St) (Q' : Bool → Hp → Prop), σ[2]? = some (some (.ref wl)) → σ[8]? = some (some (.int pl)) → σ.length = 10 → (∀ H6, Same H5 H6 → Q' (web.any fun lot => decide (pl ∈ lot)) H6) → True := fun _ _ _ _ _ _ _ _ _ _ _ => trivial
    refine for_range (lo := 0) (n := r4) (fun i σ H' => (∃ u3 u4 u5 u6 : Option V, σ = [some (.ref src), some (.int n), some (.ref wl), u3, u4, u5, u6, none, none, none]) ∧ Sd src H H' ∧ SrcOk H' src ∧ ∃ web : List (List Nat), Ls H' wl web ∧ web.length = i + 1 ∧ ∀ lot ∈ web, LotOk n lot)
      ⟨⟨none, none, none, none, rfl⟩, sd3.trans sd4, ok4, [lot2], lsd_sd l3 nws sd4 ok3.ntup, rfl, fun lot h => by rw [List.mem_singleton] at h; exact h ▸ lok2⟩ ?_ ?_
    · rintro i σ H5 hi ⟨⟨u3, u4, u5, u6, rfl⟩, sd5, ok5, web, lW, wlen, wok⟩
      refine ⟨_, rfl, _, rfl, _, rfl, _, _, rfl, .inr ⟨wl, rfl, lW⟩, src, (web.map enc).length, rfl, ok5, by rw [List.length_map]; omega, by rw [List.length_map]; omega, fun re H6 hre sd6 ok6 => ?_⟩
      rw [List.length_map] at hre
      have lW6 : Ls H6 wl web := lsd_sd lW nws sd6 ok5.ntup
      refine ⟨wl, _, re, enc web[re], rfl, lW6, rfl, by rw [List.getElem?_map, List.getElem?_eq_getElem hre]; rfl, fun ev he => ?_⟩
      have ein : web[re] ∈ web := List.getElem_mem hre
      generalize web[re] = elder at he ein
      have eok := wok elder ein
      obtain ⟨ea, ex, rfl, hea, hex⟩ := dat_tup.mp he
      have exn : ex = elder.map fun n : Nat => V.int ((n : Nat) : Int) := by
        rw [nums_map] at hex
        rw [dats_nums hex, List.map_map]
        rfl
      have exl : ex.length ≤ 1000 := by
        rw [exn, List.length_map]
        exact eok.2.2
      have nes : ea ≠ src := fun z => ok6.ntup ex (z ▸ hea)
      -- shared
      refine ⟨_, rfl, ea, rfl, ⟨ex, SqT.of hea⟩, fun D hD => ?_⟩
      refine lc_sub walk_tup exn (by omega) hD ok6 (fun _ => True) (fun H7 sd => SqT.of (sd _ _ hea nes)) (fun u => rfl) (fun j m H7 hm sd7 ok7 Q' q' => ?_) fun H7 xs sd7 ok7 sub _ ls => ?_
      · exact ⟨_, rfl, src, 2, rfl, ok7, by omega, by omega, fun r H8 hr sd8 ok8 => ⟨rfl, _, rfl, q' _ H8 (fun _ => trivial) sd8 ok8⟩⟩
      have lW7 : Ls H7 wl web := lsd_sd lW6 nws sd7 ok6.ntup
      have nDs : D ≠ src := fun z => ok6.some (z ▸ hD)
      -- fresh
      refine ⟨_, rfl, n, rfl, by omega, by omega, fun D2 hD2 => ?_⟩
      rw [Int.toNat_natCast]
      refine lc_sub walk_rng (rngV_nats n) (by rw [rngV_len]; omega) hD2 ok7 (fun x => ∀ lot ∈ web, x ∉ lot) (fun _ _ => trivial) (fun u => rfl) (fun j m H8 hm sd8 ok8 Q' q' => ?_) fun H8 ys sd8 ok8 sub2 py ls2 => ?_
      · have lW8 : Ls H8 wl web := lsd_sd lW7 nws sd8 ok7.ntup
        obtain ⟨wv, hwv, hwd⟩ := id lW8
        have hwl := dats_len hwd
        rw [List.length_map] at hwl
        refine ⟨_, rfl, wl, rfl, ⟨wv, SqL.of hwv⟩, fun D3 hD3 => lc_val walk_list (fun i => web[i]?.map fun lot => V.bl (decide (m ∈ lot))) (by rw [sizeLine_eq]; omega) hD3 (fun H' sm => SqL.of (sm _ _ hwv)) (fun k y H9 hy _ => ?_) ?_ ?_⟩
        · obtain ⟨dd, g1, g2⟩ := dats_getV hwd hy
          rw [List.getElem?_map] at g1
          obtain ⟨lt, hlt, rfl⟩ := Option.map_eq_some_iff.mp g1
          rw [hlt]
          exact evb_yes
        · intro k y H9 b hy s9 hb Q'' q''
          obtain ⟨dd, g1, g2⟩ := dats_getV hwd hy
          rw [List.getElem?_map] at g1
          obtain ⟨lt, hlt, rfl⟩ := Option.map_eq_some_iff.mp g1
          rw [hlt] at hb
          cases hb
          obtain ⟨la, lx, rfl, hla, hlx⟩ := dat_tup.mp (g2.same s9)
          refine ⟨_, rfl, _, rfl, enc m, _, is_nat.mpr rfl, ⟨la, lx, rfl, .inr (SqT.of hla), hlx⟩, okd _, fun e he => ?_, q'' _ _ (Same.refl _) ?_⟩
          · obtain ⟨z, _, rfl⟩ := List.mem_map.mp he
            exact okd _
          · exact congrArg V.bl (mem_enc m lt)
        · intro H9 s9 hD9
          have e : wv.length = (web.map fun lot => V.bl (decide (m ∈ lot))).length := by rw [List.length_map]; exact hwl
          rw [e, outs_map (fun i => (List.getElem?_map ..).symm)] at hD9
          have e2 : (web.map fun lot => V.bl (decide (m ∈ lot))) = (web.map fun lot => decide (m ∈ lot)).map V.bl := by rw [List.map_map]; rfl
          rw [e2] at hD9
          refine ⟨D3, _, rfl, SqL.of hD9, _, rfl, ?_⟩
          rw [any_flags]
          have ok9 := ok8.same s9
          cases hc : web.any fun lot => decide (m ∈ lot) with
          | true => exact iteF' rfl (q' false H9 (fun z => (nomatch z)) (Same.sd s9) ok9)
          | false =>
            refine iteT' rfl ⟨_, rfl, src, 2, rfl, ok9, by omega, by omega, fun r H10 hr sd10 ok10 => ⟨rfl, _, rfl, q' _ H10 (fun _ lt hlt hin => ?_) ((Same.sd s9).trans sd10) ok10⟩⟩
            rw [List.any_eq_false] at hc
            exact hc lt hlt (decide_eq_true hin)
      have lW8 : Ls H8 wl web := lsd_sd lW7 nws sd8 ok7.ntup
      have ls8 : Ls H8 D xs := lsd_sd ls nDs sd8 ok7.ntup
      obtain ⟨wv, hwv⟩ := lsd_nd lW8
      have shared_in : ∀ x ∈ xs, x ∈ elder := fun x hx => sub.subset hx
      have nd : (xs ++ ys).Nodup := nodup_app ((nodup_of_up eok.1).sublist sub) (List.nodup_range.sublist sub2) fun x hx hin => py x hx elder ein (shared_in x hin)
      have lt : ∀ x ∈ xs ++ ys, x < n := fun x hx => by
        rcases List.mem_append.mp hx with h | h
        · exact eok.2.1 x (shared_in x h)
        · exact List.mem_range.mp (sub2.subset h)
      have few := nodup_small nd lt
      have few2 := few
      rw [List.length_append] at few2
      refine ⟨_, rfl, .inl ⟨rfl, _, SqL.of hwv⟩, _, rfl, _, rfl, D, D2, _, _, rfl, rfl, ls_ints ls8, ls_ints ls2, by rw [List.length_map, List.length_map, List.length_map, List.length_map, sizeLine_eq]; omega, fun p np => ?_⟩
      refine ⟨p, (xs ++ ys).map fun g : Nat => ((g : Nat) : Int), rfl, SqL.of (by rw [upd_same, List.map_append, List.map_append]), by rw [List.length_map]; omega, fun ns' p2 perm pw np2 => ?_⟩
      obtain ⟨lot', rfl, lok'⟩ := sorted_lot nd lt (by omega) perm pw
      refine ⟨p2, lot'.map enc, rfl, lsd_ints upd_same, fun tv H9 s9 h9 => ?_⟩
      have s89 := ((same_new np).trans (same_new np2)).trans s9
      refine ⟨wl, _, enc lot', tv, rfl, rfl, lW8.same s89, h9, by rw [List.length_map, sizeLine_eq]; omega, fun H10 a10 l10 => ?_⟩
      refine ⟨⟨_, _, _, _, rfl⟩, sd_at1 ((((sd5.trans sd6).trans sd7).trans sd8).trans (Same.sd s89)) a10 nw0, (ok8.same s89).at (a10 src nws.symm), web ++ [lot'], lsd_app (ys := [lot']) l10, by rw [List.length_append, wlen]; rfl, fun lt' hlt' => ?_⟩
      rcases List.mem_append.mp hlt' with h | h
      · exact wok lt' h
      · rw [List.mem_singleton] at h
        exact h ▸ lok'
    · rintro σ H5 ⟨⟨u3, u4, u5, u6, rfl⟩, sd5, ok5, web, lW, wlen, wok⟩
      have w10 : web.length ≤ 4 := by omega
      have fin : ∀ (H' : Hp) (web : List (List Nat)), Sd src H H' → SrcOk H' src → Ls H' wl web → web.length ≤ 10 → (∀ lot ∈ web, LotOk n lot) → ∀ v, Is H' web v → Q v H' := fun H' web sd ok _ l h v hv => q v H' web sd ok ⟨h, by omega⟩ l hv
      refine ⟨_, rfl, n, rfl, by omega, by omega, fun D2 hD2 => ?_⟩
      rw [Int.toNat_natCast]
      refine lc_sub walk_rng (rngV_nats n) (by rw [rngV_len]; omega) hD2 ok5 (fun x => ∀ lot ∈ web, x ∉ lot) (fun _ _ => trivial) (fun u => rfl) (fun j m H8 hm sd8 ok8 Q' q' => ?_) fun H8 ys sd8 ok8 sub2 py ls2 => ?_
      · have lW8 : Ls H8 wl web := lsd_sd lW nws sd8 ok5.ntup
        obtain ⟨wv, hwv, hwd⟩ := id lW8
        have hwl := dats_len hwd
        rw [List.length_map] at hwl
        refine ⟨_, rfl, wl, rfl, ⟨wv, SqL.of hwv⟩, fun D3 hD3 => lc_val walk_list (fun i => web[i]?.map fun lot => V.bl (decide (m ∈ lot))) (by rw [sizeLine_eq]; omega) hD3 (fun H' sm => SqL.of (sm _ _ hwv)) (fun k y H9 hy _ => ?_) ?_ ?_⟩
        · obtain ⟨dd, g1, g2⟩ := dats_getV hwd hy
          rw [List.getElem?_map] at g1
          obtain ⟨lt, hlt, rfl⟩ := Option.map_eq_some_iff.mp g1
          rw [hlt]
          exact evb_yes
        · intro k y H9 b hy s9 hb Q'' q''
          obtain ⟨dd, g1, g2⟩ := dats_getV hwd hy
          rw [List.getElem?_map] at g1
          obtain ⟨lt, hlt, rfl⟩ := Option.map_eq_some_iff.mp g1
          rw [hlt] at hb
          cases hb
          obtain ⟨la, lx, rfl, hla, hlx⟩ := dat_tup.mp (g2.same s9)
          refine ⟨_, rfl, _, rfl, enc m, _, is_nat.mpr rfl, ⟨la, lx, rfl, .inr (SqT.of hla), hlx⟩, okd _, fun e he => ?_, q'' _ _ (Same.refl _) ?_⟩
          · obtain ⟨z, _, rfl⟩ := List.mem_map.mp he
            exact okd _
          · exact congrArg V.bl (mem_enc m lt)
        · intro H9 s9 hD9
          have e : wv.length = (web.map fun lot => V.bl (decide (m ∈ lot))).length := by rw [List.length_map]; exact hwl
          rw [e, outs_map (fun i => (List.getElem?_map ..).symm)] at hD9
          have e2 : (web.map fun lot => V.bl (decide (m ∈ lot))) = (web.map fun lot => decide (m ∈ lot)).map V.bl := by rw [List.map_map]; rfl
          rw [e2] at hD9
          refine ⟨D3, _, rfl, SqL.of hD9, _, rfl, ?_⟩
          rw [any_flags]
          refine q' _ H9 (fun z lt hlt hin => ?_) (Same.sd s9) (ok8.same s9)
          have z' : (web.any fun lot => decide (m ∈ lot)) = false := by
            rw [Bool.not_eq_true'] at z
            exact z
          rw [List.any_eq_false] at z'
          exact z' lt hlt (decide_eq_true hin)
      have lW8 : Ls H8 wl web := lsd_sd lW nws sd8 ok5.ntup
      have sd08 := sd5.trans sd8
      refine ⟨_, rfl, [], dats_nil, Nat.zero_le _, fun e0 H9 ne0 a9 l9 => ?_⟩
      have s9 : Same H8 H9 := a9.same ne0
      obtain ⟨dx, dy, q1, q2, q3, q4, q5⟩ := list_ne (K := K) (ls2.same s9) l9
      refine ⟨dx, dy, q1, q2, q3, q4, _, rfl, ?_⟩
      have ok9 := ok8.same s9
      have lW9 := lW8.same s9
      have sd09 := sd08.trans (Same.sd s9)
      show (if (!PyData.eqv dx dy) = true then _ else _)
      rw [q5]
      by_cases hy0 : ys = []
      · refine iteF' (decide_eq_false fun z => z hy0) (iteF ⟨_, rfl, wl, _, rfl, lW9, fun v H10 s10 hv => ?_⟩)
        exact fin H10 web (sd09.trans (Same.sd s10)) (ok9.same s10) (lW9.same s10) (by omega) wok v hv
      · refine iteT' (decide_eq_true hy0) ⟨_, rfl, src, 4, rfl, ok9, by omega, by omega, fun r10 H10 hr10 sd10 ok10 => ⟨_, _, rfl, rfl, _, rfl, ?_⟩⟩
        have lW10 : Ls H10 wl web := lsd_sd lW9 nws sd10 ok9.ntup
        by_cases hr0 : 0 < r10
        · refine iteT' (decide_eq_true (by omega)) ?_
          refine ⟨_, rfl, _, rfl, _, rfl, _, _, rfl, .inr ⟨wl, rfl, lW10⟩, src, (web.map enc).length, rfl, ok10, by rw [List.length_map]; omega, by rw [List.length_map]; omega, fun re H11 hre sd11 ok11 => ?_⟩
          rw [List.length_map] at hre
          have lW11 : Ls H11 wl web := lsd_sd lW10 nws sd11 ok10.ntup
          refine ⟨wl, _, re, enc web[re], rfl, lW11, rfl, by rw [List.getElem?_map, List.getElem?_eq_getElem hre]; rfl, fun ev he => ?_⟩
          have ein : web[re] ∈ web := List.getElem_mem hre
          generalize web[re] = elder at he ein
          have eok := wok elder ein
          obtain ⟨ea, ex, rfl, hea, hex⟩ := dat_tup.mp he
          have exn : ex = elder.map fun n : Nat => V.int ((n : Nat) : Int) := by
            rw [nums_map] at hex
            rw [dats_nums hex, List.map_map]
            rfl
          have exl : ex.length ≤ 1000 := by
            rw [exn, List.length_map]
            exact eok.2.2
          have nes : ea ≠ src := fun z => ok11.ntup ex (z ▸ hea)
          obtain ⟨wv, hwv⟩ := lsd_nd lW11
          refine ⟨_, rfl, .inl ⟨rfl, _, SqL.of hwv⟩, _, rfl, ea, rfl, ⟨ex, SqT.of hea⟩, fun D hD => ?_⟩
          refine lc_sub walk_tup exn (by omega) hD ok11 (fun _ => True) (fun H7 sd => SqT.of (sd _ _ hea nes)) (fun u => rfl) (fun j m H7 hm sd7 ok7 Q' q' => ?_) fun H12 xs sd12 ok12 sub _ ls => ?_
          · exact ⟨_, rfl, src, 2, rfl, ok7, by omega, by omega, fun r H8 hr sd8 ok8 => ⟨rfl, _, rfl, q' _ H8 (fun _ => trivial) sd8 ok8⟩⟩
          have lW12 : Ls H12 wl web := lsd_sd lW11 nws sd12 ok11.ntup
          have nD2s : D2 ≠ src := fun z => ok5.some (z ▸ hD2)
          have ls12 : Ls H12 D2 ys := lsd_sd (lsd_sd (lsd_sd (ls2.same s9) nD2s sd10 ok9.ntup) nD2s sd11 ok10.ntup) nD2s sd12 ok11.ntup
          have shared_in : ∀ x ∈ xs, x ∈ elder := fun x hx => sub.subset hx
          have nd : (xs ++ ys).Nodup := nodup_app ((nodup_of_up eok.1).sublist sub) (List.nodup_range.sublist sub2) fun x hx hin => py x hx elder ein (shared_in x hin)
          have lt : ∀ x ∈ xs ++ ys, x < n := fun x hx => by
            rcases List.mem_append.mp hx with h | h
            · exact eok.2.1 x (shared_in x h)
            · exact List.mem_range.mp (sub2.subset h)
          have few := nodup_small nd lt
          have few2 := few
          rw [List.length_append] at few2
          refine ⟨_, rfl, D, D2, _, _, rfl, rfl, ls_ints ls, ls_ints ls12, by rw [List.length_map, List.length_map, List.length_map, List.length_map, sizeLine_eq]; omega, fun p np => ?_⟩
          refine ⟨p, (xs ++ ys).map fun g : Nat => ((g : Nat) : Int), rfl, SqL.of (by rw [upd_same, List.map_append, List.map_append]), by rw [List.length_map]; omega, fun ns' p2 perm pw np2 => ?_⟩
          obtain ⟨lot', rfl, lok'⟩ := sorted_lot nd lt (by omega) perm pw
          refine ⟨p2, lot'.map enc, rfl, lsd_ints upd_same, fun tv H13 s13 h13 => ?_⟩
          have s123 := ((same_new np).trans (same_new np2)).trans s13
          refine ⟨wl, _, enc lot', tv, rfl, rfl, lW12.same s123, h13, by rw [List.length_map, sizeLine_eq]; omega, fun H14 a14 l14 => ?_⟩
          have lW14 : Ls H14 wl (web ++ [lot']) := lsd_app (ys := [lot']) l14
          have sd014 : Sd src H H14 := sd_at1 ((((sd09.trans sd10).trans sd11).trans sd12).trans (Same.sd s123)) a14 nw0
          have ok14 : SrcOk H14 src := (ok12.same s123).at (a14 src nws.symm)
          refine ⟨_, rfl, wl, _, rfl, lW14, fun v H15 s15 hv => ?_⟩
          refine fin H15 (web ++ [lot']) (sd014.trans (Same.sd s15)) (ok14.same s15) (lW14.same s15) (by rw [List.length_append, List.length_singleton]; omega) (fun lt' hlt' => ?_) v hv
          rcases List.mem_append.mp hlt' with h | h
          · exact wok lt' h
          · rw [List.mem_singleton] at h
            exact h ▸ lok'
        · refine iteF' (decide_eq_false (by omega)) ⟨_, rfl, wl, _, rfl, lW10, fun v H11 s11 hv => ?_⟩
          exact fin H11 web ((sd09.trans sd10).trans (Same.sd s11)) (ok10.same s11) (lW10.same s11) (by omega) wok v hv
theorem ok_law_web (B : Bi mg) (o__law_draw : Ok P w K mg base 1 "_law_draw" ["_law_source_here", "_law_many"] spDraw) (o__law_lot : Ok P w K mg base 2 "_law_lot" ["_law_source_here", "_law_many"] spLot) (o__law_tree : Ok P w K mg base 3 "_law_tree" ["_law_source_here", "_law_many"] spWebD)
    (d : Df K mg "_law_web" "_law_web" s__law_web ["_law_source_here", "_law_many"]) : Ok P w K mg base 4 "_law_web" ["_law_source_here", "_law_many"] spWebD := by
  refine d.ok sc__law_web (fun vs H Q E h => ?_) (fun f cdv A outer s H vs Q E hr h => ?_)
  · obtain ⟨src, n, rfl, _⟩ := h
    rfl
  · obtain ⟨src, n, rfl, ok, n1, n6, q⟩ := h
    refine ⟨_, (pss_cons (ps_if (pt_cmpR op_eq (pe_fn o__law_draw hr (pa_cons (pv 0) (pa_cons pe_int pa_nil))) pe_int (nomark _))
        (pss_one (ps_ret (pe_fn o__law_tree hr (pa_cons (pv 0) (pa_cons (pv 1) pa_nil)))))
        pss_nil)
      (pss_one (ps_ret (pe_callTy cr_tupD (by rfl) B.tuple (by decide +kernel) (pa_cons (pe_lc (own := [("_law_k", 2)]) rfl sc__law_web.nd (pi_range1 rfl B.range (pa_cons (pe_fn o__law_draw hr (pa_cons (pv 0) (pa_cons pe_int pa_nil))) pa_nil)) (blkOk_by (N := ["_law_source_here", "_law_many", "_law_k"]) (sc := defScope s__law_web) (by decide +kernel)) (fun _ _ _ _ _ => (pgn 2 sc__law_web.nd)) (fun _ _ _ _ _ => pts_nil) (fun _ _ _ _ _ => (pe_fn o__law_lot hr (pa_cons (pv 0) (pa_cons (pv 1) pa_nil))))) pa_nil))))), ?_⟩
    refine ⟨_, rfl, src, 2, rfl, ok, by omega, by omega, fun r H1 hr sd1 ok1 => ⟨rfl, _, rfl, ?_⟩⟩
    by_cases h0 : r = 0
    · subst h0
      exact iteT' (by decide) ⟨_, rfl, _, rfl, src, n, rfl, ok1, n1, n6, fun v H2 web sd2 ok2 wok w10 hv => q v H2 web (sd1.trans sd2) ok2 wok w10 hv⟩
    · refine iteF' (decide_eq_false fun e => h0 (by injection e with e; omega)) ?_
      refine ⟨_, rfl, src, 4, rfl, ok1, by omega, by omega, fun r2 H2 hr2 sd2 ok2 => ⟨r2, rfl, by omega, by omega, fun D hD => ?_⟩⟩
      rw [Int.toNat_natCast]
      have nDs : D ≠ src := fun z => ok2.some (z ▸ hD)
      refine lc_it walk_rng (fun i H' => Sd src H2 H' ∧ SrcOk H' src ∧ ∃ web : List (List Nat), Ls H' D web ∧ web.length = i ∧ ∀ lot ∈ web, LotOk n lot) ⟨Same.sd (same_new hD), ok2.same (same_new hD), [], ⟨[], upd_same, dats_nil⟩, rfl, fun l h => (nomatch h)⟩ (fun _ _ _ _ => trivial) ?_ ?_
      · rintro i y H3 H3' hi ⟨sd3, ok3, web, ⟨acc, hacc, hda⟩, wl, wok⟩ ⟨rfl, hy⟩
        refine ⟨wipe_one, yes_of ?_⟩
        refine ⟨_, rfl, _, rfl, src, n, rfl, ok3, n1, n6, fun v H4 lot sd4 ok4 lok hv => ?_⟩
        have h4 : H4 D = some (.lst acc) := sd4 _ _ hacc nDs
        have hd4 := hda.sd sd4 ok3.ntup
        have hl := dats_len hd4
        rw [List.length_map] at hl
        refine ⟨acc, h4, by rw [sizeLine_eq]; rw [rngV_len] at hi; omega, sd_at1 (sd3.trans sd4) at1_upd hD, ok4.at (upd_ne nDs.symm), web ++ [lot], ⟨_, upd_same, ?_⟩, by rw [List.length_append, wl]; rfl, fun l hl' => ?_⟩
        · rw [List.map_append]
          exact Dats.mono (tx_lst h4) _ _ (dats_app hd4 (dats_cons hv dats_nil))
        · rcases List.mem_append.mp hl' with h | h
          · exact wok l h
          · rw [List.mem_singleton] at h
            exact h ▸ lok
      · rintro H3 ⟨sd3, ok3, web, lW, wl, wok⟩
        rw [rngV_len] at wl
        exact ⟨D, _, rfl, lW, fun v H4 s4 hv => q v H4 web (((sd1.trans sd2).trans sd3).trans (Same.sd s4)) (ok3.same s4) ⟨wok, by omega⟩ (by omega) hv⟩
end
end Fd

/-! The law's own comparison. -/
namespace Fd
open PySem PySem.Spec PyProof.Rows L2
open Enc (enc)
open RZ (pi_zipA ItzT)
abbrev s__law_same : Stmt := topS 66
theorem sc__law_same : FnScope ["_law_told", "_law_due", "_law_one", "_law_other"] ["_law_told", "_law_due"] (defScope s__law_same) := ⟨rfl, rfl, rfl, by decide +kernel, rfl, by decide +kernel, by decide +kernel⟩
abbrev s__law_is_integer : Stmt := topS 45
theorem sc__law_is_integer : FnScope ["_law_thing"] ["_law_thing"] (defScope s__law_is_integer) := ⟨rfl, rfl, rfl, by decide +kernel, rfl, by decide +kernel, by decide +kernel⟩
mutual
def thin : D → Bool
  | .tup ks => decide (ks.length ≤ 1000) && thinAll ks
  | _ => true
def thinAll : List D → Bool
  | [] => true
  | k :: ks => thin k && thinAll ks
end
theorem thinAll_iff : ∀ {ks : List D}, thinAll ks = true ↔ ∀ k ∈ ks, thin k = true
  | [] => by simp [thinAll]
  | k :: ks => by simp [thinAll, thinAll_iff (ks := ks)]
theorem depth_mem : ∀ {ds : List D} {d : D}, d ∈ ds → d.depth ≤ NestedKey.depthAll ds
  | [], _, h => nomatch h
  | e :: ds, d, h => by
    simp only [NestedKey.depthAll]
    rcases List.mem_cons.mp h with rfl | h
    · omega
    · have := depth_mem h
      omega
def rIsiLT : List V → Hp → VK → Prop := fun xs H Q => ∃ (d : D) (x : V) (tp : Addr), xs = [x, .ref tp] ∧ H tp = some (.tup [.ty "list", .ty "tuple"]) ∧ Dat H d x ∧ Q (.bl (isD .tuple d)) H
theorem call_isiLT {X : Cx} : CallR X (.builtin "isinstance") rIsiLT := by
  intro pins s σ H xs us Q I r h
  obtain ⟨d, x, tp, rfl, ht, hx, q⟩ := h
  refine call_isiT pins s σ H _ us Q I r ⟨x, tp, _, .type (tyD d), [.type "list", .type "tuple"], isD .tuple d, rfl, ht, .cons (.ty _) (.cons (.ty _) .nil), dat_ty hx, ?_, q⟩
  have k1 : PySem.W.kitOne X.K (.type (tyD d)) (.type "list") = some (isD .list d) := kit_dat X.K .list d
  have k2 : PySem.W.kitOne X.K (.type (tyD d)) (.type "tuple") = some (isD .tuple d) := kit_dat X.K .tuple d
  have n1 : isD .list d = false := by cases d <;> rfl
  refine kitAny_cons k1 (fun _ => kitAny_cons k2 (fun e => ?_) (fun e => e)) (fun e => by rw [n1] at e; cases e)
  rw [e]
  exact kitAny_nil
theorem walk_zipT {K : PySem.W.Frag} {a b : Addr} {xs ys : List V} {n : Nat} (hn : n = min xs.length ys.length) : Walk (ItzT K a b) n (fun H => SqT K H a xs ∧ SqT K H b ys) (YPair (fun i => xs[i]?) (fun i => ys[i]?)) := by
  subst hn
  refine ⟨fun i _ hi q => ?_, fun _ q => ⟨xs, ys, q.1, q.2, by omega⟩, fun i H v H' _ q y => ?_⟩
  · have h1 : i < xs.length := by omega
    have h2 : i < ys.length := by omega
    exact ⟨xs, ys, xs[i], ys[i], q.1, q.2, by simp [h1], by simp [h2]⟩
  · obtain ⟨T, x, y', h1, h2, h3, h4, h5⟩ := y
    exact ⟨T, x, y', h1, h2, h3, h4 xs q.1, h5 ys q.2⟩
section
variable {P : Program} {w : World} {K : PySem.W.Frag} {mg : Str → Option Value} {base : Heap}
def spLawInt : Sp := fun vs H Q _ => ∃ (d : D) (x : V), vs = [x] ∧ Dat H d x ∧ Q (.bl (isD .int d)) H
theorem ok_law_is_integer (B : Bi mg) (d : Df K mg "_law_is_integer" "_law_is_integer" s__law_is_integer ["_law_thing"]) : Ok P w K mg base 1 "_law_is_integer" ["_law_thing"] spLawInt := by
  refine d.ok sc__law_is_integer (fun vs H Q E h => ?_) (fun f cdv A outer s H vs Q E hr h => ?_)
  · obtain ⟨d, x, rfl, _⟩ := h
    rfl
  · obtain ⟨d, x, rfl, hx, q⟩ := h
    refine ⟨_, (pss_one (ps_ret (pe_and (pe_callB (call_isiD .int) (by rfl) B.isinstance (by decide +kernel) (pa_cons (pv 0) (pa_cons (pe_bt (T := "int") B.int) pa_nil))) (pe_one (pe_not (pe_callB (call_isiD .bool) (by rfl) B.isinstance (by decide +kernel) (pa_cons (pv 0) (pa_cons (pe_bt (T := "bool") B.bool) pa_nil)))))))), ?_⟩
    refine ⟨_, rfl, d, x, rfl, hx, _, rfl, ?_⟩
    cases hi : isD .int d with
    | true =>
      refine iteT ⟨_, rfl, d, x, rfl, hx, _, rfl, ?_⟩
      have hb : isD .bool d = false := by cases d <;> rfl
      rw [hb]
      rw [hi] at q
      exact q
    | false =>
      rw [hi] at q
      exact iteF q
def spSame (j : Nat) : Sp := fun vs H Q _ => ∃ (x y : V) (d : D), vs = [x, y] ∧ Dat H d x ∧ Dat H d y ∧ plain d = true ∧ d.depth ≤ j ∧ thin d = true ∧ ∀ H', Same H H' → Q (.bl true) H'
theorem ok_law_same0 (B : Bi mg) (o__law_is_integer : Ok P w K mg base 1 "_law_is_integer" ["_law_thing"] spLawInt) (d : Df K mg "_law_same" "_law_same" s__law_same ["_law_told", "_law_due"]) : Ok P w K mg base 2 "_law_same" ["_law_told", "_law_due"] (spSame 0) := by
  refine d.ok sc__law_same (fun vs H Q E h => ?_) (fun f cdv A outer s H vs Q E hr h => ?_)
  · obtain ⟨x, y, d, rfl, _⟩ := h
    rfl
  · obtain ⟨x, y, d, rfl, hx, hy, pl, dj, th, q⟩ := h
    have hr1 := hr
    refine ⟨_, (pss_cons (ps_if (pt_val (pe_callB call_isiLT (by rfl) B.isinstance (by decide +kernel) (pa_cons (pv 1) (pa_cons (pe_tup (pa_cons (pe_bt (T := "list") B.list) (pa_cons (pe_bt (T := "tuple") B.tuple) pa_nil))) pa_nil))))
        pss_never
        pss_nil)
      (pss_cons (ps_if (pt_cmpR op_isN (pv 1) pe_non (nomark _))
        (pss_one (ps_ret (pe_cmpR op_isN (pv 0) pe_non (nomark _))))
        pss_nil)
      (pss_cons (ps_if (pt_val (pe_callB (call_isiD .bool) (by rfl) B.isinstance (by decide +kernel) (pa_cons (pv 1) (pa_cons (pe_bt (T := "bool") B.bool) pa_nil))))
        (pss_one (ps_ret (pe_and (pe_callB (call_isiD .bool) (by rfl) B.isinstance (by decide +kernel) (pa_cons (pv 0) (pa_cons (pe_bt (T := "bool") B.bool) pa_nil))) (pe_one (pe_cmpR (op_eqN hr.units) (pv 0) (pv 1) (nomark _))))))
        pss_nil)
      (pss_cons (ps_if (pt_val (pe_callB (call_isiD .str) (by rfl) B.isinstance (by decide +kernel) (pa_cons (pv 1) (pa_cons (pe_bt (T := "str") B.str) pa_nil))))
        (pss_one (ps_ret (pe_and (pe_callB (call_isiD .str) (by rfl) B.isinstance (by decide +kernel) (pa_cons (pv 0) (pa_cons (pe_bt (T := "str") B.str) pa_nil))) (pe_one (pe_cmpR (op_eqN hr.units) (pv 0) (pv 1) (nomark _))))))
        pss_nil)
      (pss_one (ps_ret (pe_and (pe_fn o__law_is_integer hr (pa_cons (pv 0) pa_nil)) (pe_one (pe_cmpR (op_eqN hr.units) (pv 0) (pv 1) (nomark _)))))))))), ?_⟩
    cases d with
    | tup ds => 
      simp only [NestedKey.depth] at dj
      omega
    | text z => simp [plain] at pl
    | none =>
      have e1 : x = .non := by
        unfold Dat at hx
        exact hx
      have e2 : y = .non := by
        unfold Dat at hy
        exact hy
      subst e1 e2
      have s1 : ∀ {p : Addr}, H p = none → Same H (upd H p (.tup [.ty "list", .ty "tuple"])) := fun h => same_new h
      refine ⟨_, rfl, by show 2 ≤ sizeLine; rw [sizeLine_eq]; omega, fun p np => ⟨.none, _, p, rfl, upd_same, by unfold Dat; rfl, _, rfl, iteF' rfl ?_⟩⟩
      exact ⟨_, rfl, rfl, _, rfl, iteT' (by decide) ⟨_, rfl, rfl, q _ (s1 np)⟩⟩
    | num i =>
      rw [dat_num] at hx hy
      subst hx hy
      have s1 : ∀ {p : Addr}, H p = none → Same H (upd H p (.tup [.ty "list", .ty "tuple"])) := fun h => same_new h
      refine ⟨_, rfl, by show 2 ≤ sizeLine; rw [sizeLine_eq]; omega, fun p np => ⟨.num i, _, p, rfl, upd_same, dat_num.mpr rfl, _, rfl, iteF' rfl ?_⟩⟩
      refine ⟨_, rfl, rfl, _, rfl, iteF' rfl ?_⟩
      refine ⟨_, rfl, .num i, _, rfl, dat_num.mpr rfl, _, rfl, iteF' rfl ?_⟩
      refine ⟨_, rfl, .num i, _, rfl, dat_num.mpr rfl, _, rfl, iteF' rfl ?_⟩
      refine ⟨_, rfl, .num i, _, rfl, dat_num.mpr rfl, true, rfl, iteT ⟨_, rfl, _, rfl, .num i, .num i, dat_num.mpr rfl, dat_num.mpr rfl, ⟨rfl, Nat.zero_le _⟩, ⟨rfl, Nat.zero_le _⟩, ?_⟩⟩
      rw [decide_eq_true rfl]
      exact q _ (s1 np)
theorem ok_law_sameS (B : Bi mg) (o__law_is_integer : Ok P w K mg base 1 "_law_is_integer" ["_law_thing"] spLawInt) {j : Nat} (o__law_same : Ok P w K mg base (2 + j) "_law_same" ["_law_told", "_law_due"] (spSame j)) (d : Df K mg "_law_same" "_law_same" s__law_same ["_law_told", "_law_due"]) : Ok P w K mg base (2 + j + 1) "_law_same" ["_law_told", "_law_due"] (spSame (j + 1)) := by
  refine d.ok sc__law_same (fun vs H Q E h => ?_) (fun f cdv A outer s H vs Q E hr h => ?_)
  · obtain ⟨x, y, d, rfl, _⟩ := h
    rfl
  · obtain ⟨x, y, d, rfl, hx, hy, pl, dj, th, q⟩ := h
    have hr1 := hr
    refine ⟨_, (pss_cons (ps_if (pt_val (pe_callB call_isiLT (by rfl) B.isinstance (by decide +kernel) (pa_cons (pv 1) (pa_cons (pe_tup (pa_cons (pe_bt (T := "list") B.list) (pa_cons (pe_bt (T := "tuple") B.tuple) pa_nil))) pa_nil))))
        (pss_cons (ps_if (PW.pt (pw_or (pt_cmpR op_ne (pe_callB (call_isiD .list) (by rfl) B.isinstance (by decide +kernel) (pa_cons (pv 0) (pa_cons (pe_bt (T := "list") B.list) pa_nil))) (pe_callB (call_isiD .list) (by rfl) B.isinstance (by decide +kernel) (pa_cons (pv 1) (pa_cons (pe_bt (T := "list") B.list) pa_nil))) (nomark _)) (pw_or (pt_not (pt_val (pe_callB call_isiLT (by rfl) B.isinstance (by decide +kernel) (pa_cons (pv 0) (pa_cons (pe_tup (pa_cons (pe_bt (T := "list") B.list) (pa_cons (pe_bt (T := "tuple") B.tuple) pa_nil))) pa_nil))))) (pw_or1 (pt_cmpR op_ne (pe_callB cr_lenD (by rfl) B.len (by decide +kernel) (pa_cons (pv 0) pa_nil)) (pe_callB cr_lenD (by rfl) B.len (by decide +kernel) (pa_cons (pv 1) pa_nil)) (nomark _))))))
          (pss_one (ps_ret pe_bl))
          pss_nil)
        (pss_one (ps_ret (pe_callB (cr_all rfl) (by rfl) B.all (by decide +kernel) (pa_cons (pe_lc (own := [("_law_one", 2), ("_law_other", 3)]) rfl sc__law_same.nd (pi_zipA rfl B.zip (pa_cons (pv 0) (pa_cons (pv 1) pa_nil))) (blkOk_by (N := ["_law_told", "_law_due", "_law_one", "_law_other"]) (sc := defScope s__law_same) (by decide +kernel)) (fun _ _ _ _ _ => (pg_tupK K rfl (n := 2) rfl (pgs_cons (pgn 2 sc__law_same.nd) (pgs_cons (pgn 3 sc__law_same.nd) pgs_nil)))) (fun _ _ _ _ _ => pts_nil) (fun _ _ _ _ _ => (pe_fn o__law_same hr (pa_cons (pv 2) (pa_cons (pv 3) pa_nil)) (Nat.le_refl _)))) pa_nil)))))
        pss_nil)
      (pss_cons (ps_if (pt_cmpR op_isN (pv 1) pe_non (nomark _))
        (pss_one (ps_ret (pe_cmpR op_isN (pv 0) pe_non (nomark _))))
        pss_nil)
      (pss_cons (ps_if (pt_val (pe_callB (call_isiD .bool) (by rfl) B.isinstance (by decide +kernel) (pa_cons (pv 1) (pa_cons (pe_bt (T := "bool") B.bool) pa_nil))))
        (pss_one (ps_ret (pe_and (pe_callB (call_isiD .bool) (by rfl) B.isinstance (by decide +kernel) (pa_cons (pv 0) (pa_cons (pe_bt (T := "bool") B.bool) pa_nil))) (pe_one (pe_cmpR (op_eqN hr.units) (pv 0) (pv 1) (nomark _))))))
        pss_nil)
      (pss_cons (ps_if (pt_val (pe_callB (call_isiD .str) (by rfl) B.isinstance (by decide +kernel) (pa_cons (pv 1) (pa_cons (pe_bt (T := "str") B.str) pa_nil))))
        (pss_one (ps_ret (pe_and (pe_callB (call_isiD .str) (by rfl) B.isinstance (by decide +kernel) (pa_cons (pv 0) (pa_cons (pe_bt (T := "str") B.str) pa_nil))) (pe_one (pe_cmpR (op_eqN hr.units) (pv 0) (pv 1) (nomark _))))))
        pss_nil)
      (pss_one (ps_ret (pe_and (pe_fn o__law_is_integer hr (pa_cons (pv 0) pa_nil) (by omega)) (pe_one (pe_cmpR (op_eqN hr.units) (pv 0) (pv 1) (nomark _)))))))))), ?_⟩
    cases d with
    | tup ds => 
      obtain ⟨a, xs, rfl, ha, hxs⟩ := dat_tup.mp hx
      obtain ⟨b, ys, rfl, hb, hys⟩ := dat_tup.mp hy
      have lx := dats_len hxs
      have ly := dats_len hys
      simp only [plain] at pl
      simp only [thin, Bool.and_eq_true, decide_eq_true_eq] at th
      simp only [NestedKey.depth] at dj
      have s1 : ∀ {p : Addr}, H p = none → Same H (upd H p (.tup [.ty "list", .ty "tuple"])) := fun h => same_new h
      refine ⟨_, rfl, by show 2 ≤ sizeLine; rw [sizeLine_eq]; omega, fun p np => ⟨.tup ds, _, p, rfl, upd_same, hy.same (s1 np), _, rfl, iteT' rfl ?_⟩⟩
      have sm : Same H (upd H p (.tup [.ty "list", .ty "tuple"])) := s1 np
      generalize upd H p (.tup [.ty "list", .ty "tuple"]) = H1 at *
      refine ⟨_, rfl, .tup ds, _, rfl, hx.same sm, _, rfl, .tup ds, _, rfl, hy.same sm, rfl, _, rfl, iteF' rfl ?_⟩
      refine ⟨_, rfl, by show 2 ≤ sizeLine; rw [sizeLine_eq]; omega, fun p2 np2 => ⟨.tup ds, _, p2, rfl, upd_same, (hx.same sm).same (same_new np2), _, rfl, iteF' rfl ?_⟩⟩
      have sm2 : Same H1 (upd H1 p2 (.tup [.ty "list", .ty "tuple"])) := same_new np2
      generalize upd H1 p2 (.tup [.ty "list", .ty "tuple"]) = H2 at *
      have s02 := sm.trans sm2
      refine ⟨_, rfl, _, _, rfl, .inl (hx.same s02), _, rfl, _, _, rfl, .inl (hy.same s02), rfl, _, rfl, iteF' (by simp) ?_⟩
      refine ⟨_, rfl, _, rfl, a, b, xs, ys, rfl, .inr ⟨SqT.of (s02 _ _ ha), SqT.of (s02 _ _ hb), fun D hD => ?_⟩⟩
      refine lc_it (walk_zipT (n := xs.length) (by omega)) (fun i H' => Same H2 H' ∧ H' D = some (.lst (List.replicate i (V.bl true)))) ⟨same_new hD, upd_same⟩ (fun i H' _ p => ⟨SqT.of (p.1 _ _ (s02 _ _ ha)), SqT.of (p.1 _ _ (s02 _ _ hb))⟩) ?_ ?_
      · rintro i v H3 H3' hi ⟨s3, hD3⟩ ⟨T, x1, y1, rfl, nT, rfl, ex, ey⟩
        have s4 : Same H3 (upd H3 T (.tup [x1, y1])) := same_new nT
        refine ⟨T, _, rfl, SqT.of upd_same, rfl, _, _, rfl, _, _, rfl, rfl, rfl, yes_of ?_⟩
        generalize upd H3 T (.tup [x1, y1]) = H4 at *
        obtain ⟨d1, k1, k2⟩ := dats_getV hxs ex
        obtain ⟨d2, k3, k4⟩ := dats_getV hys ey
        rw [k1] at k3
        cases k3
        have hin := List.mem_of_getElem? k1
        have s04 := (s02.trans s3).trans s4
        refine ⟨_, rfl, _, rfl, x1, y1, d1, rfl, k2.same s04, k4.same s04, plainAll_iff.mp pl d1 hin, ?_, thinAll_iff.mp th.2 d1 hin, fun H5 s5 => ?_⟩
        · have := depth_mem hin
          omega
        · refine ⟨_, s5 _ _ (s4 _ _ hD3), by rw [List.length_replicate, sizeLine_eq]; omega, ?_, ?_⟩
          · intro b o eb
            have nb : b ≠ D := fun z => by
              rw [z, hD] at eb
              cases eb
            rw [upd_ne nb]
            exact s5 _ _ (s4 _ _ (s3 _ _ eb))
          · rw [upd_same, ← List.replicate_succ']
      · rintro H3 ⟨s3, hD3⟩
        rw [flags_true] at hD3
        refine ⟨D, _, rfl, SqL.of hD3, ?_⟩
        rw [all_true]
        exact q H3 (s02.trans s3)
    | text z => simp [plain] at pl
    | none =>
      have e1 : x = .non := by
        unfold Dat at hx
        exact hx
      have e2 : y = .non := by
        unfold Dat at hy
        exact hy
      subst e1 e2
      have s1 : ∀ {p : Addr}, H p = none → Same H (upd H p (.tup [.ty "list", .ty "tuple"])) := fun h => same_new h
      refine ⟨_, rfl, by show 2 ≤ sizeLine; rw [sizeLine_eq]; omega, fun p np => ⟨.none, _, p, rfl, upd_same, by unfold Dat; rfl, _, rfl, iteF' rfl ?_⟩⟩
      exact ⟨_, rfl, rfl, _, rfl, iteT' (by decide) ⟨_, rfl, rfl, q _ (s1 np)⟩⟩
    | num i =>
      rw [dat_num] at hx hy
      subst hx hy
      have s1 : ∀ {p : Addr}, H p = none → Same H (upd H p (.tup [.ty "list", .ty "tuple"])) := fun h => same_new h
      refine ⟨_, rfl, by show 2 ≤ sizeLine; rw [sizeLine_eq]; omega, fun p np => ⟨.num i, _, p, rfl, upd_same, dat_num.mpr rfl, _, rfl, iteF' rfl ?_⟩⟩
      refine ⟨_, rfl, rfl, _, rfl, iteF' rfl ?_⟩
      refine ⟨_, rfl, .num i, _, rfl, dat_num.mpr rfl, _, rfl, iteF' rfl ?_⟩
      refine ⟨_, rfl, .num i, _, rfl, dat_num.mpr rfl, _, rfl, iteF' rfl ?_⟩
      refine ⟨_, rfl, .num i, _, rfl, dat_num.mpr rfl, true, rfl, iteT ⟨_, rfl, _, rfl, .num i, .num i, dat_num.mpr rfl, dat_num.mpr rfl, ⟨rfl, Nat.zero_le _⟩, ⟨rfl, Nat.zero_le _⟩, ?_⟩⟩
      rw [decide_eq_true rfl]
      exact q _ (s1 np)
end
end Fd

/-! What the law asks of the least false day, in plain Lean. -/
namespace Fd
open Enc (enc)
theorem cand_iff {p : Pts} {n : Nat} {web : List (List Nat)} {d : Day} : cand p n web d = true ↔ isT p d = false ∧ ∀ lot ∈ web, ∃ t ∈ tdays p n, boardOf t = boardOf d ∧ notesOf t.1 lot = notesOf d.1 lot := by
  unfold cand
  rw [Bool.and_eq_true, Bool.not_eq_true', List.all_eq_true]
  refine and_congr_right fun _ => ⟨fun h lot hl => ?_, fun h lot hl => ?_⟩
  · obtain ⟨t, t1, t2⟩ := List.any_eq_true.mp (h lot hl)
    rw [Bool.and_eq_true] at t2
    exact ⟨t, t1, of_decide_eq_true t2.1, of_decide_eq_true t2.2⟩
  · obtain ⟨t, t1, t2, t3⟩ := h lot hl
    exact List.any_eq_true.mpr ⟨t, t1, by rw [Bool.and_eq_true]; exact ⟨decide_eq_true t2, decide_eq_true t3⟩⟩
theorem due_sub {p : Pts} {n : Nat} {web web' : List (List Nat)} (h : ∀ lot ∈ web, lot ∈ web') {d : Day} (hd : due p n web' = some d) : ∃ e, due p n web = some e ∧ ¬ Lt d e := by
  obtain ⟨d1, d2⟩ := due_mem hd
  obtain ⟨d3, d4⟩ := cand_iff.mp d2
  have hc : cand p n web d = true := cand_iff.mpr ⟨d3, fun lot hl => d4 lot (h lot hl)⟩
  cases e : due p n web with
  | none =>
    have := List.find?_eq_none.mp e d d1
    exact (this hc).elim
  | some x => exact ⟨x, rfl, due_least e d1 hc⟩
theorem due_same {p : Pts} {n : Nat} {web web' : List (List Nat)} (h : ∀ lot, lot ∈ web ↔ lot ∈ web') : due p n web = due p n web' := by
  unfold due
  have e : cand p n web = cand p n web' := funext fun d => by
    rw [Bool.eq_iff_iff, cand_iff, cand_iff]
    exact and_congr_right fun _ => ⟨fun q lot hl => q lot ((h lot).mpr hl), fun q lot hl => q lot ((h lot).mp hl)⟩
  rw [e]
theorem due_full {p : Pts} {n : Nat} {web : List (List Nat)} : due p n (web ++ [List.range n]) = none := by
  refine due_none fun d hd => ?_
  cases e : cand p n (web ++ [List.range n]) d with
  | false => rfl
  | true =>
    obtain ⟨h1, h2⟩ := cand_iff.mp e
    obtain ⟨t, t1, t2, t3⟩ := h2 (List.range n) (List.mem_append_right _ List.mem_cons_self)
    have tl := (rowsN_mem.mp (allDays_mem.mp (tdays_mem.mp t1).1).1).1
    have dl := (rowsN_mem.mp (allDays_mem.mp hd).1).1
    have hs := (like_notes tl dl t2 fun q hq => List.mem_range.mp hq).mpr t3
    have e1 : t.1 = d.1 := by
      refine List.ext_getElem? fun i => ?_
      by_cases hi : i < n
      · rw [stpAt_get (by omega), stpAt_get (by omega), hs i (List.mem_range.mpr hi)]
      · rw [List.getElem?_eq_none (by omega), List.getElem?_eq_none (by omega)]
    have e2 : t = d := Prod.ext e1 (show t.2 = d.2 from congrArg (fun b : Brd => b.2) t2)
    rw [e2] at t1
    rw [(tdays_mem.mp t1).2] at h1
    cases h1
theorem due_dup {p : Pts} {n : Nat} {web : List (List Nat)} : due p n (web.take 1 ++ web) = due p n web := due_same fun lot => by
  rw [List.mem_append]
  exact ⟨fun h => h.elim List.mem_of_mem_take id, .inr⟩
theorem thin_rows : ∀ {ss : List Stp}, thinAll (ss.map enc) = true
  | [] => rfl
  | x :: ss => by
    simp only [List.map_cons, thinAll, Bool.and_eq_true]
    exact ⟨rfl, thin_rows⟩
theorem thin_due {p : Pts} {n : Nat} (hn : n ≤ 1000) {web : List (List Nat)} : thin (enc (due p n web)) = true := by
  cases e : due p n web with
  | none => rfl
  | some d =>
    have hl := (rowsN_mem.mp (allDays_mem.mp (due_mem e).1).1).1
    show thin (.tup [.tup (d.1.map enc), .num d.2]) = true
    simp only [thin, thinAll, Bool.and_eq_true, decide_eq_true_eq]
    refine ⟨by show 2 ≤ 1000; omega, ⟨by rw [List.length_map]; omega, thin_rows⟩, trivial, trivial⟩
end Fd

/-! The law. -/
namespace Fd
open PySem PySem.Spec PyProof.Rows L2
open Enc (enc)
abbrev s_law : Stmt := topS 71
theorem sc_law : FnScope ["_law_script", "_law_k", "_law_source_here", "_law_parts_here", "_law_office", "_law_many", "_law_turn", "_law_web_here", "_law_due", "_law_more"] ["_law_script"] (defScope s_law) := ⟨rfl, rfl, rfl, by decide +kernel, rfl, by decide +kernel, by decide +kernel⟩
theorem nw_hid {H0 H : Hp} {x src : Addr} (ok : SrcOk H0 src) (okH : SrcOk H src) (nx : H0 x = none) : Same (Nw H0 x H) (hid H src) := fun a o e => by
  obtain ⟨h1, h2⟩ := nw_some.mp e
  have ne : a ≠ src := fun z => by
    subst z
    rcases h2 with h | h | ⟨xs, rfl⟩
    · exact ok.some (h ▸ nx)
    · exact ok.some h
    · exact okH.ntup xs h1
  rw [hid_ne ne]
  exact h1
theorem hid_sd {H H' : Hp} {src : Addr} (s : Sd src H H') : Same (hid H src) (hid H' src) := fun a o e => by
  unfold hid at e ⊢
  by_cases h : a = src
  · rw [if_pos h] at e
    cases e
  · rw [if_neg h] at e ⊢
    exact s a o e h
theorem rgV_lot {H : Hp} {n : Nat} : Dats H ((List.range n).map enc) (rgV 0 (n : Int)) := by
  have e : rgV 0 (n : Int) = (((List.range n).map fun g : Nat => ((g : Nat) : Int)).map V.int) := by
    unfold rgV
    rw [List.map_map]
    have : ((n : Int) - 0).toNat = n := by omega
    rw [this]
    refine List.map_congr_left fun i _ => ?_
    show V.int (0 + (i : Int)) = V.int (i : Int)
    rw [Int.zero_add]
  rw [e, nums_map]
  exact dats_ints _
theorem imp_trick {A B : Prop} (f : B → A) (b : B) : A := f b
theorem is_none {H : Hp} {v : V} (h : Is H (none : Option Day) v) : v = .non := by
  have h' : Dat H NestedKey.none v := h
  unfold Dat at h'
  exact h'
theorem is_some {H : Hp} {d : Day} {v : V} (h : Is H (some d) v) : ∃ a, v = .ref a ∧ Is H d v := by
  have h' : Is H d v := h
  obtain ⟨a, xs, rfl, _⟩ := dat_tup.mp h'
  exact ⟨a, rfl, h'⟩
section
variable {P : Program} {w : World} {K : PySem.W.Frag} {mg : Str → Option Value} {base : Heap}
def spLaw (K : PySem.W.Frag) : Sp := fun vs H Q _ => ∃ (ls : Addr) (ns : List Int), vs = [.ref ls] ∧ SqL K H ls (ns.map V.int) ∧ ∀ H', Q (.bl true) H'
set_option maxHeartbeats 16000000 in
theorem ok_law {Ca : Addr} (B : Bi mg) (o__law_source : Ok P w K mg base 1 "_law_source" ["_law_script", "_law_k"] (spSource K)) (o__law_parts : Ok P w K mg base 4 "_law_parts" ["_law_source_here"] spParts) (o__law_made : Ok P w K mg base 7 "_law_made" ["_law_parts_here"] (spMade P w Ca))
    (o__law_people : Ok P w K mg base 2 "_law_people" ["_law_source_here", "_law_sizes_here", "_law_most"] spPeople) (o__law_web : Ok P w K mg base 4 "_law_web" ["_law_source_here", "_law_many"] spWebD) (o__law_false_of : Ok P w K mg base 3 "_law_false_of" ["_law_parts_here", "_law_many", "_law_lots"] spLawFalse)
    (o__law_same : Ok P w K mg base (2 + 3) "_law_same" ["_law_told", "_law_due"] (spSame 3)) (o_web_false : Ok P w K mg base 6 "web_false" ["office", "many", "web"] (spWeb P w Ca)) (o__law_lot : Ok P w K mg base 2 "_law_lot" ["_law_source_here", "_law_many"] spLot)
    {f : Addr} {fd : FuncData} (F : Fun K "law" "law" s_law f fd) : FnOk P w K mg base CX0 8 f fd ["_law_script"] (spLaw K) := by
  refine F.ok sc_law (fun vs H Q E h => ?_) (fun cdv A outer s H vs Q E hr h => ?_)
  · obtain ⟨ls, ns, rfl, _⟩ := h
    rfl
  · obtain ⟨ls, ns, rfl, hl, q⟩ := h
    refine ⟨_, (pss_cons (ps_for PassesOwn.never rfl (pi_range1 rfl B.range (pa_cons pe_int pa_nil)) (pgn 1 sc_law.nd)
        (pss_cons (pss 2 sc_law.nd (pe_fn o__law_source hr (pa_cons (pv 0) (pa_cons (pv 1) pa_nil))))
        (pss_cons (pss 3 sc_law.nd (pe_fn o__law_parts hr (pa_cons (pv 2) pa_nil)))
        (pss_cons (pss 4 sc_law.nd (pe_fn o__law_made hr (pa_cons (pv 3) pa_nil)))
        (pss_cons (pss 5 sc_law.nd (pe_fn o__law_people hr (pa_cons (pv 2) (pa_cons (pe_ix ix_dat (pv 3) pe_int (fun _ _ => rfl)) (pa_cons pe_int pa_nil)))))
        (pss_cons (ps_for PassesOwn.never rfl (pi_range1 rfl B.range (pa_cons pe_int pa_nil)) (pgn 6 sc_law.nd)
          (pss_cons (pss 7 sc_law.nd (pe_fn o__law_web hr (pa_cons (pv 2) (pa_cons (pv 5) pa_nil))))
          (pss_cons (pss 8 sc_law.nd (pe_fn o__law_false_of hr (pa_cons (pv 3) (pa_cons (pv 5) (pa_cons (pv 7) pa_nil)))))
          (pss_cons (ps_if (PW.pt (pw_or (pt_not (pt_val (pe_fn o__law_same hr (pa_cons (pe_fn o_web_false hr (pa_cons (pv 4) (pa_cons (pv 5) (pa_cons (pv 7) pa_nil)))) (pa_cons (pv 8) pa_nil))))) (pw_or1 (pt_cmpR (op_neN hr.units) (pe_fn o_web_false hr (pa_cons (pv 4) (pa_cons (pv 5) (pa_cons (pv 7) pa_nil)))) (pv 8) (nomark _)))))
            (pss_one (ps_ret pe_bl))
            pss_nil)
          (pss_cons (pss 9 sc_law.nd (pe_fn o_web_false hr (pa_cons (pv 4) (pa_cons (pv 5) (pa_cons (pe_op op_catD (pv 7) (pe_tupD (pa_cons (pe_fn o__law_lot hr (pa_cons (pv 2) (pa_cons (pv 5) pa_nil))) pa_nil))) pa_nil)))))
          (pss_cons (ps_if (PW.pt (pw_and (pt_cmpR op_notN (pv 9) pe_non (nomark _)) (pw_and1 (PW.pt (pw_or (pt_cmpR op_isN (pv 8) pe_non (nomark _)) (pw_or1 (pt_cmpR (op_ltN hr.units8) (pv 9) (pv 8) (nomark _))))))))
            (pss_one (ps_ret pe_bl))
            pss_nil)
          (pss_cons (ps_if (pt_cmpR op_notN (pe_fn o_web_false hr (pa_cons (pv 4) (pa_cons (pv 5) (pa_cons (pe_op op_catD (pv 7) (pe_tupD (pa_cons (pe_callTy cr_tupD (by rfl) B.tuple (by decide +kernel) (pa_cons (pe_listRg rfl rfl B.list (prg_1 rfl B.range (pv 5))) pa_nil)) pa_nil))) pa_nil)))) pe_non (nomark _))
            (pss_one (ps_ret pe_bl))
            pss_nil)
          (pss_one (ps_if (PW.pt (pw_and (pt_cmpR (op_neN hr.units) (pv 7) (pe_tupD pa_nil) (nomark _)) (pw_and1 (pt_cmpR (op_neN hr.units) (pe_fn o_web_false hr (pa_cons (pv 4) (pa_cons (pv 5) (pa_cons (pe_op op_catD (pe_slice sl_dat (pv 7) po_none (po_some pe_int)) (pv 7)) pa_nil)))) (pv 8) (nomark _)))))
            (pss_one (ps_ret pe_bl))
            pss_nil)))))))))
        (pss_one (ps_if (pt_not (pt_val (pe_fn o__law_same hr (pa_cons (pe_fn o_web_false hr (pa_cons (pv 4) (pa_cons (pv 5) (pa_cons (pe_tupD pa_nil) pa_nil)))) (pa_cons (pe_fn o__law_false_of hr (pa_cons (pv 3) (pa_cons (pv 5) (pa_cons (pe_tupD pa_nil) pa_nil)))) pa_nil)))))
          (pss_one (ps_ret pe_bl))
          pss_nil))))))))
      (pss_one (ps_ret pe_bl))), ?_⟩
    refine ⟨2, rfl, by decide, by decide, ?_⟩
    refine for_range (lo := 0) (n := 2) (fun i σ H' => (∃ u1 u2 u3 u4 u5 u6 u7 u8 u9 : Option V, σ = [some (.ref ls), u1, u2, u3, u4, u5, u6, u7, u8, u9]) ∧ Same H H') ⟨⟨none, none, none, none, none, none, none, none, none, rfl⟩, Same.refl H⟩ ?_ ?_
    · rintro k σ H0 hk ⟨⟨u1, u2, u3, u4, u5, u6, u7, u8, u9, rfl⟩, sm0⟩
      refine ⟨_, rfl, _, rfl, ls, ns, k, by show [V.ref ls, V.int (0 + (k : Int))] ++ [] = _; rw [Int.zero_add]; rfl, sql_same hl sm0, fun src H1 nsrc s1 ok1 => ?_⟩
      refine ⟨_, rfl, src, rfl, ok1, fun hv H2 p pm pok sd2 ok2 hp => ?_⟩
      refine ⟨_, rfl, hv, p, rfl, hp, pok, fun x H3 s3 off0 nx => ?_⟩
      have ok3 := ok2.same s3
      have off3 : Off P w Ca (hid H3 src) x p.z p.mv p.cl := off0.same (nw_hid ok2 ok3 nx)
      refine ⟨_, rfl, _, rfl, _, 0, _, hp.same s3, rfl, rfl, fun zv hz => ⟨src, zv, p.z, rfl, ok3, hz, pm, fun n H4 fz sd4 ok4 => ?_⟩⟩
      have fit : Fits p n := fz.fits
      have n1 := fit.lo
      have n6 := fit.hi
      have hp4 : Is H4 p hv := (hp.same s3).sd sd4 ok3.ntup
      have off4 : Off P w Ca (hid H4 src) x p.z p.mv p.cl := off3.same (hid_sd sd4)
      -- what may have changed since
      have base4 : ∀ {H'}, Sd src H4 H' → Same H H' := fun {H'} sd => sm0.trans (sd_same s1 nsrc (((sd2.trans (Same.sd s3)).trans sd4).trans sd))
      have hp' : ∀ {H'}, Sd src H4 H' → Is H' p hv := fun sd => hp4.sd sd ok4.ntup
      have off' : ∀ {H'}, Sd src H4 H' → Off P w Ca H' x p.z p.mv p.cl := fun sd => (off4.same (hid_sd sd)).same hid_same
      refine ⟨3, rfl, by decide, by decide, ?_⟩
      refine for_range (lo := 0) (n := 3) (fun t σ H' => (∃ u6 u7 u8 u9 : Option V, σ = [some (.ref ls), some (.int (0 + (k : Int))), some (.ref src), some hv, some (.ref x), some (.int n), u6, u7, u8, u9]) ∧ Sd src H4 H' ∧ SrcOk H' src) ⟨⟨_, _, _, _, rfl⟩, Sd.refl _, ok4⟩ ?_ ?_
      · rintro t σ H5 ht ⟨⟨u6, u7, u8, u9, rfl⟩, sd5, ok5⟩
        refine ⟨_, rfl, _, rfl, src, n, rfl, ok5, n1, n6, fun wv H6 web sd6 ok6 wok w10 hw => ?_⟩
        have e6 := sd5.trans sd6
        refine ⟨_, rfl, _, rfl, _, rfl, hv, wv, p, n, web, rfl, hp' e6, pok, fit, hw, wok, fun dv H7 s7 hd => ?_⟩
        have e7 := e6.trans (Same.sd s7)
        have hw7 := hw.same s7
        refine ⟨_, rfl, _, rfl, _, rfl, x, wv, p, n, web, rfl, off' e7, pok, fit, hw7, wok, fun tv H8 s8 ht8 => ?_⟩
        have e8 := e7.trans (Same.sd s8)
        have hd8 := hd.same s8
        refine ⟨_, rfl, tv, dv, enc (due p n web), rfl, ht8, hd8, Enc.wf _, Enc.hd (due p n web), thin_due (by omega), fun H9 s9 => ⟨true, rfl, iteF ?_⟩⟩
        have e9 := e8.trans (Same.sd s9)
        have hd9 := hd8.same s9
        have hw9 := (hw7.same s8).same s9
        refine ⟨_, rfl, _, rfl, _, rfl, x, wv, p, n, web, rfl, off' e9, pok, fit, hw9, wok, fun tv2 H10 s10 ht10 => ?_⟩
        refine ⟨_, rfl, enc (due p n web), enc (due p n web), ht10, hd9.same s10, okd _, okd _, _, rfl, iteF' (by simp) ?_⟩
        have e10 := e9.trans (Same.sd s10)
        have hd10 := hd9.same s10
        have hw10 := hw9.same s10
        have ok10 : SrcOk H10 src := ((((ok6.same s7).same s8).same s9).same s10)
        -- a lot more
        refine ⟨_, rfl, _, rfl, _, rfl, _, rfl, _, rfl, src, n, rfl, ok10, n1, n6, fun lv H11 lot sd11 ok11 lok hl11 => ?_⟩
        have e11 := e10.trans sd11
        have hw11 := hw10.sd sd11 ok10.ntup
        have hd11 := hd10.sd sd11 ok10.ntup
        have wz := w10
        refine ⟨[enc lot], dats_cons hl11 dats_nil, by show 1 ≤ sizeLine; rw [sizeLine_eq]; omega, fun sv H12 s12 h12 => ⟨_, _, hw11.same s12, h12, by rw [List.length_map, sizeLine_eq]; show web.length + 1 ≤ _; omega, fun wv2 H13 s13 h13 => ?_⟩⟩
        have hw13 : Is H13 (web ++ [lot]) wv2 := by
          show Dat H13 (NestedKey.tup ((web ++ [lot]).map enc)) wv2
          rw [List.map_append]
          exact h13
        have e13 := e11.trans (Same.sd (s12.trans s13))
        have wok2 : WebOk n (web ++ [lot]) := ⟨fun l hl => by
          rcases List.mem_append.mp hl with h | h
          · exact wok.1 l h
          · rw [List.mem_singleton] at h
            exact h ▸ lok, by rw [List.length_append, List.length_singleton]; omega⟩
        refine ⟨x, wv2, p, n, web ++ [lot], rfl, off' e13, pok, fit, hw13, wok2, fun mv H14 s14 hm => ?_⟩
        have e14 := e13.trans (Same.sd s14)
        have s1114 := (s12.trans s13).trans s14
        have hd14 := hd11.same s1114
        have hw14 := hw11.same s1114
        have ok14 := ok11.same s1114
        -- the rest of the turn
        apply imp_trick
        · intro nx
          cases em : due p n (web ++ [lot]) with
          | none =>
            rw [em] at hm
            have hmv := is_none hm
            exact ⟨_, rfl, rfl, _, rfl, iteF' (by rw [hmv]; rfl) (iteF nx)⟩
          | some d' =>
            obtain ⟨e, he, nlt⟩ := due_sub (web := web) (fun l hl => List.mem_append_left _ hl) em
            rw [em] at hm
            obtain ⟨a, ha, hma⟩ := is_some hm
            have hde : Is H14 (some e) dv := by
              rw [← he]
              exact hd14
            obtain ⟨b, hb, hdb⟩ := is_some hde
            have nd : dlt (enc d') (enc e) = false := Bool.eq_false_iff.mpr nlt
            exact ⟨_, rfl, rfl, _, rfl, iteT' (by rw [ha, decide_eq_false (fun e : V.ref a = V.non => by cases e)]; rfl) ⟨_, rfl, rfl, _, rfl, iteF' (by rw [hb]; exact decide_eq_false (fun e : V.ref b = V.non => by cases e)) ⟨_, rfl, _, rfl, enc d', enc e, hma, hdb, same1_days d' e, (okd d').2, _, rfl, iteF' nd nx⟩⟩⟩
        -- the full lot
        have fl : LotOk n (List.range n) := lot_sub (by omega) (List.Sublist.refl _)
        have wok3 : WebOk n (web ++ [List.range n]) := ⟨fun l hl => by
          rcases List.mem_append.mp hl with h | h
          · exact wok.1 l h
          · rw [List.mem_singleton] at h
            exact h ▸ fl, by rw [List.length_append, List.length_singleton]; omega⟩
        refine ⟨_, rfl, _, rfl, _, rfl, _, rfl, (n : Int), rfl, RgOk.of_le (by omega) (by omega) (by omega) (by omega), fun rl nrl => ⟨rl, _, rfl, ⟨_, upd_same, rgV_lot⟩, fun lv3 H15 s15 h15 => ?_⟩⟩
        have s1415 : Same H14 H15 := (same_new nrl).trans s15
        refine ⟨[enc (List.range n)], dats_cons h15 dats_nil, by show 1 ≤ sizeLine; rw [sizeLine_eq]; omega, fun sv3 H16 s16 h16 => ⟨_, _, (hw14.same s1415).same s16, h16, by rw [List.length_map, sizeLine_eq]; show web.length + 1 ≤ _; omega, fun wv3 H17 s17 h17 => ?_⟩⟩
        have hw17 : Is H17 (web ++ [List.range n]) wv3 := by
          show Dat H17 (NestedKey.tup ((web ++ [List.range n]).map enc)) wv3
          rw [List.map_append]
          exact h17
        have s1417 := (s1415.trans s16).trans s17
        have e17 := e14.trans (Same.sd s1417)
        refine ⟨x, wv3, p, n, web ++ [List.range n], rfl, off' e17, pok, fit, hw17, wok3, fun fv H18 s18 hf => ?_⟩
        rw [due_full] at hf
        have hfn := is_none hf
        refine ⟨rfl, _, rfl, iteF' (by rw [hfn]; rfl) ?_⟩
        have s1418 := s1417.trans s18
        have e18 := e14.trans (Same.sd s1418)
        have hw18 := hw14.same s1418
        have hd18 := hd14.same s1418
        have ok18 := ok14.same s1418
        -- the first lot twice
        refine ⟨_, rfl, [], dats_nil, Nat.zero_le _, fun ev H19 s19 he19 => ⟨enc web, _, hw18.same s19, he19, okd web, ⟨by decide, by decide⟩, _, rfl, ?_⟩⟩
        have e19 := e18.trans (Same.sd s19)
        have ok19 := ok18.same s19
        by_cases hwe : web = []
        · refine iteF' ?_ (iteF ⟨⟨_, _, _, _, rfl⟩, e19, ok19⟩)
          rw [hwe]
          decide
        · refine iteT' ?_ ?_
          · have h0 : enc web ≠ NestedKey.tup [] := fun z => hwe (Enc.inj web ([] : List (List Nat)) z)
            rw [decide_eq_false h0]
            rfl
          have wok4 : WebOk n (web.take 1 ++ web) := ⟨fun l hl => by
            rcases List.mem_append.mp hl with h | h
            · exact wok.1 l (List.mem_of_mem_take h)
            · exact wok.1 l h, by rw [List.length_append, List.length_take]; omega⟩
          refine ⟨_, rfl, _, rfl, _, rfl, _, rfl, _, 1, hw18.same s19, rfl, rfl, fun v1 H20 s20 h1 => ?_⟩
          refine ⟨_, rfl, _, _, h1, (hw18.same s19).same s20, by rw [List.length_take, List.length_map, sizeLine_eq]; omega, fun wv4 H21 s21 h21 => ?_⟩
          have hw21 : Is H21 (web.take 1 ++ web) wv4 := by
            show Dat H21 (NestedKey.tup ((web.take 1 ++ web).map enc)) wv4
            rw [List.map_append, List.map_take]
            exact h21
          have s1921 := s20.trans s21
          have e21 := e19.trans (Same.sd s1921)
          refine ⟨x, wv4, p, n, web.take 1 ++ web, rfl, off' e21, pok, fit, hw21, wok4, fun gv H22 s22 hg => ?_⟩
          rw [due_dup] at hg
          refine ⟨_, rfl, enc (due p n web), enc (due p n web), hg, ((hd18.same s19).same s1921).same s22, okd _, okd _, _, rfl, iteF' (by simp) ⟨⟨_, _, _, _, rfl⟩, e21.trans (Same.sd s22), (ok19.same s1921).same s22⟩⟩
      · rintro σ H5 ⟨⟨u6, u7, u8, u9, rfl⟩, sd5, ok5⟩
        refine ⟨_, rfl, _, rfl, [], dats_nil, Nat.zero_le _, fun wv H6 s6 hw => ⟨x, wv, p, n, [], rfl, off' (sd5.trans (Same.sd s6)), pok, fit, hw, ⟨fun l h => (nomatch h), Nat.zero_le _⟩, fun tv H7 s7 ht => ?_⟩⟩
        refine ⟨_, rfl, _, rfl, [], dats_nil, Nat.zero_le _, fun wv2 H8 s8 hw2 => ⟨hv, wv2, p, n, [], rfl, hp' (((sd5.trans (Same.sd s6)).trans (Same.sd s7)).trans (Same.sd s8)), pok, fit, hw2, ⟨fun l h => (nomatch h), Nat.zero_le _⟩, fun dv H9 s9 hd => ?_⟩⟩
        refine ⟨tv, dv, enc (due p n []), rfl, (ht.same s8).same s9, hd, Enc.wf _, Enc.hd (due p n []), thin_due (by omega), fun H10 s10 => ⟨true, rfl, iteF ⟨⟨_, _, _, _, _, _, _, _, _, rfl⟩, base4 (((((sd5.trans (Same.sd s6)).trans (Same.sd s7)).trans (Same.sd s8)).trans (Same.sd s9)).trans (Same.sd s10))⟩⟩⟩
    · rintro σ H1 ⟨⟨u1, u2, u3, u4, u5, u6, u7, u8, u9, rfl⟩, sm⟩
      exact q H1
end
end Fd

/-! What the top has written, and the law's own head. -/
namespace Fd
open PySem PySem.Spec PyProof.Rows L2
theorem df_mk {K : PySem.W.Frag} {mg : Str → Option Value} {h : Heap} {x qual : Str} {st : Stmt} {ps : List Str} {f : Addr} {od an : Option Addr} {sl : Array (Option Value)} {oc kV dc pm cd ct : Value} (X : K.In h) (G : h.Ns mainGlobals mg)
    (a : PySem.W.nsIn K mainGlobals x = some (some (.ref f))) (l : K.lookup f = some ⟨oc, od, .func (PySem.W.fnOf x qual (defArgs st) (defBody st) (defScope st) .none kV dc pm an cd ct), sl⟩) (c : PySem.W.codeIn K cd qual = true) (k : PySem.W.keepIn K (.ref f) = true)
    (hb : ∀ (kV doc pm : Value) (an : Option Addr) (cdv ct : Value) (us : List Value), us.length = ps.length → bindArgs (PySem.W.fnOf x qual (defArgs st) (defBody st) (defScope st) .none kV doc pm an cdv ct) ⟨us, []⟩ = pure (ps.zip us)) : Df K mg x qual st ps := by
  have F := fun_mk (st := st) l c k
  exact ⟨f, _, F, PySem.W.mg_of X G a, F.binds hb⟩
set_option maxHeartbeats 16000000 in
theorem all_mk {l : PySem.W.OpenLaw} {w : World} {K : PySem.W.Frag} {h : Heap} {mg : Str → Option Value} {fa C : Addr} (X : K.In h) (G : h.Ns mainGlobals mg) (hfa : mg "law" = some (.ref fa))
    (aC : PySem.W.nsIn K mainGlobals "Office" = some (some (.ref C)))
    {f_init : Addr} {od_init an_init : Option Addr} {sl_init : Array (Option Value)} {oc_init kV_init dc_init pm_init cd_init ct_init : Value}
    (a_init : PySem.W.findIn K (.ref C) "__init__" = some (some (.ref f_init)))
    (i_init : PySem.W.isFn K (.ref f_init) = true)
    (l_init : K.lookup f_init = some ⟨oc_init, od_init, .func (PySem.W.fnOf "__init__" "Office.__init__" (defArgs s_init) (defBody s_init) (defScope s_init) .none kV_init dc_init pm_init an_init cd_init ct_init), sl_init⟩)
    (c_init : PySem.W.codeIn K cd_init "Office.__init__" = true) (k_init : PySem.W.keepIn K (.ref f_init) = true)
    {f_keep : Addr} {od_keep an_keep : Option Addr} {sl_keep : Array (Option Value)} {oc_keep kV_keep dc_keep pm_keep cd_keep ct_keep : Value}
    (a_keep : PySem.W.findIn K (.ref C) "keep" = some (some (.ref f_keep)))
    (i_keep : PySem.W.isFn K (.ref f_keep) = true)
    (l_keep : K.lookup f_keep = some ⟨oc_keep, od_keep, .func (PySem.W.fnOf "keep" "Office.keep" (defArgs s_keep) (defBody s_keep) (defScope s_keep) .none kV_keep dc_keep pm_keep an_keep cd_keep ct_keep), sl_keep⟩)
    (c_keep : PySem.W.codeIn K cd_keep "Office.keep" = true) (k_keep : PySem.W.keepIn K (.ref f_keep) = true)
    {f_is_integer : Addr} {od_is_integer an_is_integer : Option Addr} {sl_is_integer : Array (Option Value)} {oc_is_integer kV_is_integer dc_is_integer pm_is_integer cd_is_integer ct_is_integer : Value}
    (a_is_integer : PySem.W.nsIn K mainGlobals "is_integer" = some (some (.ref f_is_integer)))
    (l_is_integer : K.lookup f_is_integer = some ⟨oc_is_integer, od_is_integer, .func (PySem.W.fnOf "is_integer" "is_integer" (defArgs s_is_integer) (defBody s_is_integer) (defScope s_is_integer) .none kV_is_integer dc_is_integer pm_is_integer an_is_integer cd_is_integer ct_is_integer), sl_is_integer⟩)
    (c_is_integer : PySem.W.codeIn K cd_is_integer "is_integer" = true) (k_is_integer : PySem.W.keepIn K (.ref f_is_integer) = true)
    {f_is_within : Addr} {od_is_within an_is_within : Option Addr} {sl_is_within : Array (Option Value)} {oc_is_within kV_is_within dc_is_within pm_is_within cd_is_within ct_is_within : Value}
    (a_is_within : PySem.W.nsIn K mainGlobals "is_within" = some (some (.ref f_is_within)))
    (l_is_within : K.lookup f_is_within = some ⟨oc_is_within, od_is_within, .func (PySem.W.fnOf "is_within" "is_within" (defArgs s_is_within) (defBody s_is_within) (defScope s_is_within) .none kV_is_within dc_is_within pm_is_within an_is_within cd_is_within ct_is_within), sl_is_within⟩)
    (c_is_within : PySem.W.codeIn K cd_is_within "is_within" = true) (k_is_within : PySem.W.keepIn K (.ref f_is_within) = true)
    {f_is_triple : Addr} {od_is_triple an_is_triple : Option Addr} {sl_is_triple : Array (Option Value)} {oc_is_triple kV_is_triple dc_is_triple pm_is_triple cd_is_triple ct_is_triple : Value}
    (a_is_triple : PySem.W.nsIn K mainGlobals "is_triple" = some (some (.ref f_is_triple)))
    (l_is_triple : K.lookup f_is_triple = some ⟨oc_is_triple, od_is_triple, .func (PySem.W.fnOf "is_triple" "is_triple" (defArgs s_is_triple) (defBody s_is_triple) (defScope s_is_triple) .none kV_is_triple dc_is_triple pm_is_triple an_is_triple cd_is_triple ct_is_triple), sl_is_triple⟩)
    (c_is_triple : PySem.W.codeIn K cd_is_triple "is_triple" = true) (k_is_triple : PySem.W.keepIn K (.ref f_is_triple) = true)
    {f_are_ascending : Addr} {od_are_ascending an_are_ascending : Option Addr} {sl_are_ascending : Array (Option Value)} {oc_are_ascending kV_are_ascending dc_are_ascending pm_are_ascending cd_are_ascending ct_are_ascending : Value}
    (a_are_ascending : PySem.W.nsIn K mainGlobals "are_ascending" = some (some (.ref f_are_ascending)))
    (l_are_ascending : K.lookup f_are_ascending = some ⟨oc_are_ascending, od_are_ascending, .func (PySem.W.fnOf "are_ascending" "are_ascending" (defArgs s_are_ascending) (defBody s_are_ascending) (defScope s_are_ascending) .none kV_are_ascending dc_are_ascending pm_are_ascending an_are_ascending cd_are_ascending ct_are_ascending), sl_are_ascending⟩)
    (c_are_ascending : PySem.W.codeIn K cd_are_ascending "are_ascending" = true) (k_are_ascending : PySem.W.keepIn K (.ref f_are_ascending) = true)
    {f_is_lot_below : Addr} {od_is_lot_below an_is_lot_below : Option Addr} {sl_is_lot_below : Array (Option Value)} {oc_is_lot_below kV_is_lot_below dc_is_lot_below pm_is_lot_below cd_is_lot_below ct_is_lot_below : Value}
    (a_is_lot_below : PySem.W.nsIn K mainGlobals "is_lot_below" = some (some (.ref f_is_lot_below)))
    (l_is_lot_below : K.lookup f_is_lot_below = some ⟨oc_is_lot_below, od_is_lot_below, .func (PySem.W.fnOf "is_lot_below" "is_lot_below" (defArgs s_is_lot_below) (defBody s_is_lot_below) (defScope s_is_lot_below) .none kV_is_lot_below dc_is_lot_below pm_is_lot_below an_is_lot_below cd_is_lot_below ct_is_lot_below), sl_is_lot_below⟩)
    (c_is_lot_below : PySem.W.codeIn K cd_is_lot_below "is_lot_below" = true) (k_is_lot_below : PySem.W.keepIn K (.ref f_is_lot_below) = true)
    {f_check_number : Addr} {od_check_number an_check_number : Option Addr} {sl_check_number : Array (Option Value)} {oc_check_number kV_check_number dc_check_number pm_check_number cd_check_number ct_check_number : Value}
    (a_check_number : PySem.W.nsIn K mainGlobals "check_number" = some (some (.ref f_check_number)))
    (l_check_number : K.lookup f_check_number = some ⟨oc_check_number, od_check_number, .func (PySem.W.fnOf "check_number" "check_number" (defArgs s_check_number) (defBody s_check_number) (defScope s_check_number) .none kV_check_number dc_check_number pm_check_number an_check_number cd_check_number ct_check_number), sl_check_number⟩)
    (c_check_number : PySem.W.codeIn K cd_check_number "check_number" = true) (k_check_number : PySem.W.keepIn K (.ref f_check_number) = true)
    {f_are_sizes : Addr} {od_are_sizes an_are_sizes : Option Addr} {sl_are_sizes : Array (Option Value)} {oc_are_sizes kV_are_sizes dc_are_sizes pm_are_sizes cd_are_sizes ct_are_sizes : Value}
    (a_are_sizes : PySem.W.nsIn K mainGlobals "are_sizes" = some (some (.ref f_are_sizes)))
    (l_are_sizes : K.lookup f_are_sizes = some ⟨oc_are_sizes, od_are_sizes, .func (PySem.W.fnOf "are_sizes" "are_sizes" (defArgs s_are_sizes) (defBody s_are_sizes) (defScope s_are_sizes) .none kV_are_sizes dc_are_sizes pm_are_sizes an_are_sizes cd_are_sizes ct_are_sizes), sl_are_sizes⟩)
    (c_are_sizes : PySem.W.codeIn K cd_are_sizes "are_sizes" = true) (k_are_sizes : PySem.W.keepIn K (.ref f_are_sizes) = true)
    {f_is_move : Addr} {od_is_move an_is_move : Option Addr} {sl_is_move : Array (Option Value)} {oc_is_move kV_is_move dc_is_move pm_is_move cd_is_move ct_is_move : Value}
    (a_is_move : PySem.W.nsIn K mainGlobals "is_move" = some (some (.ref f_is_move)))
    (l_is_move : K.lookup f_is_move = some ⟨oc_is_move, od_is_move, .func (PySem.W.fnOf "is_move" "is_move" (defArgs s_is_move) (defBody s_is_move) (defScope s_is_move) .none kV_is_move dc_is_move pm_is_move an_is_move cd_is_move ct_is_move), sl_is_move⟩)
    (c_is_move : PySem.W.codeIn K cd_is_move "is_move" = true) (k_is_move : PySem.W.keepIn K (.ref f_is_move) = true)
    {f_are_moves : Addr} {od_are_moves an_are_moves : Option Addr} {sl_are_moves : Array (Option Value)} {oc_are_moves kV_are_moves dc_are_moves pm_are_moves cd_are_moves ct_are_moves : Value}
    (a_are_moves : PySem.W.nsIn K mainGlobals "are_moves" = some (some (.ref f_are_moves)))
    (l_are_moves : K.lookup f_are_moves = some ⟨oc_are_moves, od_are_moves, .func (PySem.W.fnOf "are_moves" "are_moves" (defArgs s_are_moves) (defBody s_are_moves) (defScope s_are_moves) .none kV_are_moves dc_are_moves pm_are_moves an_are_moves cd_are_moves ct_are_moves), sl_are_moves⟩)
    (c_are_moves : PySem.W.codeIn K cd_are_moves "are_moves" = true) (k_are_moves : PySem.W.keepIn K (.ref f_are_moves) = true)
    {f_are_closings : Addr} {od_are_closings an_are_closings : Option Addr} {sl_are_closings : Array (Option Value)} {oc_are_closings kV_are_closings dc_are_closings pm_are_closings cd_are_closings ct_are_closings : Value}
    (a_are_closings : PySem.W.nsIn K mainGlobals "are_closings" = some (some (.ref f_are_closings)))
    (l_are_closings : K.lookup f_are_closings = some ⟨oc_are_closings, od_are_closings, .func (PySem.W.fnOf "are_closings" "are_closings" (defArgs s_are_closings) (defBody s_are_closings) (defScope s_are_closings) .none kV_are_closings dc_are_closings pm_are_closings an_are_closings cd_are_closings ct_are_closings), sl_are_closings⟩)
    (c_are_closings : PySem.W.codeIn K cd_are_closings "are_closings" = true) (k_are_closings : PySem.W.keepIn K (.ref f_are_closings) = true)
    {f_board_of : Addr} {od_board_of an_board_of : Option Addr} {sl_board_of : Array (Option Value)} {oc_board_of kV_board_of dc_board_of pm_board_of cd_board_of ct_board_of : Value}
    (a_board_of : PySem.W.nsIn K mainGlobals "board_of" = some (some (.ref f_board_of)))
    (l_board_of : K.lookup f_board_of = some ⟨oc_board_of, od_board_of, .func (PySem.W.fnOf "board_of" "board_of" (defArgs s_board_of) (defBody s_board_of) (defScope s_board_of) .none kV_board_of dc_board_of pm_board_of an_board_of cd_board_of ct_board_of), sl_board_of⟩)
    (c_board_of : PySem.W.codeIn K cd_board_of "board_of" = true) (k_board_of : PySem.W.keepIn K (.ref f_board_of) = true)
    {f_goals_of : Addr} {od_goals_of an_goals_of : Option Addr} {sl_goals_of : Array (Option Value)} {oc_goals_of kV_goals_of dc_goals_of pm_goals_of cd_goals_of ct_goals_of : Value}
    (a_goals_of : PySem.W.nsIn K mainGlobals "goals_of" = some (some (.ref f_goals_of)))
    (l_goals_of : K.lookup f_goals_of = some ⟨oc_goals_of, od_goals_of, .func (PySem.W.fnOf "goals_of" "goals_of" (defArgs s_goals_of) (defBody s_goals_of) (defScope s_goals_of) .none kV_goals_of dc_goals_of pm_goals_of an_goals_of cd_goals_of ct_goals_of), sl_goals_of⟩)
    (c_goals_of : PySem.W.codeIn K cd_goals_of "goals_of" = true) (k_goals_of : PySem.W.keepIn K (.ref f_goals_of) = true)
    {f_shuts_with : Addr} {od_shuts_with an_shuts_with : Option Addr} {sl_shuts_with : Array (Option Value)} {oc_shuts_with kV_shuts_with dc_shuts_with pm_shuts_with cd_shuts_with ct_shuts_with : Value}
    (a_shuts_with : PySem.W.nsIn K mainGlobals "shuts_with" = some (some (.ref f_shuts_with)))
    (l_shuts_with : K.lookup f_shuts_with = some ⟨oc_shuts_with, od_shuts_with, .func (PySem.W.fnOf "shuts_with" "shuts_with" (defArgs s_shuts_with) (defBody s_shuts_with) (defScope s_shuts_with) .none kV_shuts_with dc_shuts_with pm_shuts_with an_shuts_with cd_shuts_with ct_shuts_with), sl_shuts_with⟩)
    (c_shuts_with : PySem.W.codeIn K cd_shuts_with "shuts_with" = true) (k_shuts_with : PySem.W.keepIn K (.ref f_shuts_with) = true)
    {f_all_steps : Addr} {od_all_steps an_all_steps : Option Addr} {sl_all_steps : Array (Option Value)} {oc_all_steps kV_all_steps dc_all_steps pm_all_steps cd_all_steps ct_all_steps : Value}
    (a_all_steps : PySem.W.nsIn K mainGlobals "all_steps" = some (some (.ref f_all_steps)))
    (l_all_steps : K.lookup f_all_steps = some ⟨oc_all_steps, od_all_steps, .func (PySem.W.fnOf "all_steps" "all_steps" (defArgs s_all_steps) (defBody s_all_steps) (defScope s_all_steps) .none kV_all_steps dc_all_steps pm_all_steps an_all_steps cd_all_steps ct_all_steps), sl_all_steps⟩)
    (c_all_steps : PySem.W.codeIn K cd_all_steps "all_steps" = true) (k_all_steps : PySem.W.keepIn K (.ref f_all_steps) = true)
    {f_alive_layers : Addr} {od_alive_layers an_alive_layers : Option Addr} {sl_alive_layers : Array (Option Value)} {oc_alive_layers kV_alive_layers dc_alive_layers pm_alive_layers cd_alive_layers ct_alive_layers : Value}
    (a_alive_layers : PySem.W.nsIn K mainGlobals "alive_layers" = some (some (.ref f_alive_layers)))
    (l_alive_layers : K.lookup f_alive_layers = some ⟨oc_alive_layers, od_alive_layers, .func (PySem.W.fnOf "alive_layers" "alive_layers" (defArgs s_alive_layers) (defBody s_alive_layers) (defScope s_alive_layers) .none kV_alive_layers dc_alive_layers pm_alive_layers an_alive_layers cd_alive_layers ct_alive_layers), sl_alive_layers⟩)
    (c_alive_layers : PySem.W.codeIn K cd_alive_layers "alive_layers" = true) (k_alive_layers : PySem.W.keepIn K (.ref f_alive_layers) = true)
    {f_begins_of : Addr} {od_begins_of an_begins_of : Option Addr} {sl_begins_of : Array (Option Value)} {oc_begins_of kV_begins_of dc_begins_of pm_begins_of cd_begins_of ct_begins_of : Value}
    (a_begins_of : PySem.W.nsIn K mainGlobals "begins_of" = some (some (.ref f_begins_of)))
    (l_begins_of : K.lookup f_begins_of = some ⟨oc_begins_of, od_begins_of, .func (PySem.W.fnOf "begins_of" "begins_of" (defArgs s_begins_of) (defBody s_begins_of) (defScope s_begins_of) .none kV_begins_of dc_begins_of pm_begins_of an_begins_of cd_begins_of ct_begins_of), sl_begins_of⟩)
    (c_begins_of : PySem.W.codeIn K cd_begins_of "begins_of" = true) (k_begins_of : PySem.W.keepIn K (.ref f_begins_of) = true)
    {f_days_of : Addr} {od_days_of an_days_of : Option Addr} {sl_days_of : Array (Option Value)} {oc_days_of kV_days_of dc_days_of pm_days_of cd_days_of ct_days_of : Value}
    (a_days_of : PySem.W.nsIn K mainGlobals "days_of" = some (some (.ref f_days_of)))
    (l_days_of : K.lookup f_days_of = some ⟨oc_days_of, od_days_of, .func (PySem.W.fnOf "days_of" "days_of" (defArgs s_days_of) (defBody s_days_of) (defScope s_days_of) .none kV_days_of dc_days_of pm_days_of an_days_of cd_days_of ct_days_of), sl_days_of⟩)
    (c_days_of : PySem.W.codeIn K cd_days_of "days_of" = true) (k_days_of : PySem.W.keepIn K (.ref f_days_of) = true)
    {f_steps_with : Addr} {od_steps_with an_steps_with : Option Addr} {sl_steps_with : Array (Option Value)} {oc_steps_with kV_steps_with dc_steps_with pm_steps_with cd_steps_with ct_steps_with : Value}
    (a_steps_with : PySem.W.nsIn K mainGlobals "steps_with" = some (some (.ref f_steps_with)))
    (l_steps_with : K.lookup f_steps_with = some ⟨oc_steps_with, od_steps_with, .func (PySem.W.fnOf "steps_with" "steps_with" (defArgs s_steps_with) (defBody s_steps_with) (defScope s_steps_with) .none kV_steps_with dc_steps_with pm_steps_with an_steps_with cd_steps_with ct_steps_with), sl_steps_with⟩)
    (c_steps_with : PySem.W.codeIn K cd_steps_with "steps_with" = true) (k_steps_with : PySem.W.keepIn K (.ref f_steps_with) = true)
    {f_check_people : Addr} {od_check_people an_check_people : Option Addr} {sl_check_people : Array (Option Value)} {oc_check_people kV_check_people dc_check_people pm_check_people cd_check_people ct_check_people : Value}
    (a_check_people : PySem.W.nsIn K mainGlobals "check_people" = some (some (.ref f_check_people)))
    (l_check_people : K.lookup f_check_people = some ⟨oc_check_people, od_check_people, .func (PySem.W.fnOf "check_people" "check_people" (defArgs s_check_people) (defBody s_check_people) (defScope s_check_people) .none kV_check_people dc_check_people pm_check_people an_check_people cd_check_people ct_check_people), sl_check_people⟩)
    (c_check_people : PySem.W.codeIn K cd_check_people "check_people" = true) (k_check_people : PySem.W.keepIn K (.ref f_check_people) = true)
    {f_are_lots : Addr} {od_are_lots an_are_lots : Option Addr} {sl_are_lots : Array (Option Value)} {oc_are_lots kV_are_lots dc_are_lots pm_are_lots cd_are_lots ct_are_lots : Value}
    (a_are_lots : PySem.W.nsIn K mainGlobals "are_lots" = some (some (.ref f_are_lots)))
    (l_are_lots : K.lookup f_are_lots = some ⟨oc_are_lots, od_are_lots, .func (PySem.W.fnOf "are_lots" "are_lots" (defArgs s_are_lots) (defBody s_are_lots) (defScope s_are_lots) .none kV_are_lots dc_are_lots pm_are_lots an_are_lots cd_are_lots ct_are_lots), sl_are_lots⟩)
    (c_are_lots : PySem.W.codeIn K cd_are_lots "are_lots" = true) (k_are_lots : PySem.W.keepIn K (.ref f_are_lots) = true)
    {f_rows_by_board : Addr} {od_rows_by_board an_rows_by_board : Option Addr} {sl_rows_by_board : Array (Option Value)} {oc_rows_by_board kV_rows_by_board dc_rows_by_board pm_rows_by_board cd_rows_by_board ct_rows_by_board : Value}
    (a_rows_by_board : PySem.W.nsIn K mainGlobals "rows_by_board" = some (some (.ref f_rows_by_board)))
    (l_rows_by_board : K.lookup f_rows_by_board = some ⟨oc_rows_by_board, od_rows_by_board, .func (PySem.W.fnOf "rows_by_board" "rows_by_board" (defArgs s_rows_by_board) (defBody s_rows_by_board) (defScope s_rows_by_board) .none kV_rows_by_board dc_rows_by_board pm_rows_by_board an_rows_by_board cd_rows_by_board ct_rows_by_board), sl_rows_by_board⟩)
    (c_rows_by_board : PySem.W.codeIn K cd_rows_by_board "rows_by_board" = true) (k_rows_by_board : PySem.W.keepIn K (.ref f_rows_by_board) = true)
    {f_part_of : Addr} {od_part_of an_part_of : Option Addr} {sl_part_of : Array (Option Value)} {oc_part_of kV_part_of dc_part_of pm_part_of cd_part_of ct_part_of : Value}
    (a_part_of : PySem.W.nsIn K mainGlobals "part_of" = some (some (.ref f_part_of)))
    (l_part_of : K.lookup f_part_of = some ⟨oc_part_of, od_part_of, .func (PySem.W.fnOf "part_of" "part_of" (defArgs s_part_of) (defBody s_part_of) (defScope s_part_of) .none kV_part_of dc_part_of pm_part_of an_part_of cd_part_of ct_part_of), sl_part_of⟩)
    (c_part_of : PySem.W.codeIn K cd_part_of "part_of" = true) (k_part_of : PySem.W.keepIn K (.ref f_part_of) = true)
    {f_ways_into : Addr} {od_ways_into an_ways_into : Option Addr} {sl_ways_into : Array (Option Value)} {oc_ways_into kV_ways_into dc_ways_into pm_ways_into cd_ways_into ct_ways_into : Value}
    (a_ways_into : PySem.W.nsIn K mainGlobals "ways_into" = some (some (.ref f_ways_into)))
    (l_ways_into : K.lookup f_ways_into = some ⟨oc_ways_into, od_ways_into, .func (PySem.W.fnOf "ways_into" "ways_into" (defArgs s_ways_into) (defBody s_ways_into) (defScope s_ways_into) .none kV_ways_into dc_ways_into pm_ways_into an_ways_into cd_ways_into ct_ways_into), sl_ways_into⟩)
    (c_ways_into : PySem.W.codeIn K cd_ways_into "ways_into" = true) (k_ways_into : PySem.W.keepIn K (.ref f_ways_into) = true)
    {f_like_rows : Addr} {od_like_rows an_like_rows : Option Addr} {sl_like_rows : Array (Option Value)} {oc_like_rows kV_like_rows dc_like_rows pm_like_rows cd_like_rows ct_like_rows : Value}
    (a_like_rows : PySem.W.nsIn K mainGlobals "like_rows" = some (some (.ref f_like_rows)))
    (l_like_rows : K.lookup f_like_rows = some ⟨oc_like_rows, od_like_rows, .func (PySem.W.fnOf "like_rows" "like_rows" (defArgs s_like_rows) (defBody s_like_rows) (defScope s_like_rows) .none kV_like_rows dc_like_rows pm_like_rows an_like_rows cd_like_rows ct_like_rows), sl_like_rows⟩)
    (c_like_rows : PySem.W.codeIn K cd_like_rows "like_rows" = true) (k_like_rows : PySem.W.keepIn K (.ref f_like_rows) = true)
    {f_false_on_board : Addr} {od_false_on_board an_false_on_board : Option Addr} {sl_false_on_board : Array (Option Value)} {oc_false_on_board kV_false_on_board dc_false_on_board pm_false_on_board cd_false_on_board ct_false_on_board : Value}
    (a_false_on_board : PySem.W.nsIn K mainGlobals "false_on_board" = some (some (.ref f_false_on_board)))
    (l_false_on_board : K.lookup f_false_on_board = some ⟨oc_false_on_board, od_false_on_board, .func (PySem.W.fnOf "false_on_board" "false_on_board" (defArgs s_false_on_board) (defBody s_false_on_board) (defScope s_false_on_board) .none kV_false_on_board dc_false_on_board pm_false_on_board an_false_on_board cd_false_on_board ct_false_on_board), sl_false_on_board⟩)
    (c_false_on_board : PySem.W.codeIn K cd_false_on_board "false_on_board" = true) (k_false_on_board : PySem.W.keepIn K (.ref f_false_on_board) = true)
    {f_check_days : Addr} {od_check_days an_check_days : Option Addr} {sl_check_days : Array (Option Value)} {oc_check_days kV_check_days dc_check_days pm_check_days cd_check_days ct_check_days : Value}
    (a_check_days : PySem.W.nsIn K mainGlobals "check_days" = some (some (.ref f_check_days)))
    (l_check_days : K.lookup f_check_days = some ⟨oc_check_days, od_check_days, .func (PySem.W.fnOf "check_days" "check_days" (defArgs s_check_days) (defBody s_check_days) (defScope s_check_days) .none kV_check_days dc_check_days pm_check_days an_check_days cd_check_days ct_check_days), sl_check_days⟩)
    (c_check_days : PySem.W.codeIn K cd_check_days "check_days" = true) (k_check_days : PySem.W.keepIn K (.ref f_check_days) = true)
    {f_false_without_lots : Addr} {od_false_without_lots an_false_without_lots : Option Addr} {sl_false_without_lots : Array (Option Value)} {oc_false_without_lots kV_false_without_lots dc_false_without_lots pm_false_without_lots cd_false_without_lots ct_false_without_lots : Value}
    (a_false_without_lots : PySem.W.nsIn K mainGlobals "false_without_lots" = some (some (.ref f_false_without_lots)))
    (l_false_without_lots : K.lookup f_false_without_lots = some ⟨oc_false_without_lots, od_false_without_lots, .func (PySem.W.fnOf "false_without_lots" "false_without_lots" (defArgs s_false_without_lots) (defBody s_false_without_lots) (defScope s_false_without_lots) .none kV_false_without_lots dc_false_without_lots pm_false_without_lots an_false_without_lots cd_false_without_lots ct_false_without_lots), sl_false_without_lots⟩)
    (c_false_without_lots : PySem.W.codeIn K cd_false_without_lots "false_without_lots" = true) (k_false_without_lots : PySem.W.keepIn K (.ref f_false_without_lots) = true)
    {f_least_unseen : Addr} {od_least_unseen an_least_unseen : Option Addr} {sl_least_unseen : Array (Option Value)} {oc_least_unseen kV_least_unseen dc_least_unseen pm_least_unseen cd_least_unseen ct_least_unseen : Value}
    (a_least_unseen : PySem.W.nsIn K mainGlobals "least_unseen" = some (some (.ref f_least_unseen)))
    (l_least_unseen : K.lookup f_least_unseen = some ⟨oc_least_unseen, od_least_unseen, .func (PySem.W.fnOf "least_unseen" "least_unseen" (defArgs s_least_unseen) (defBody s_least_unseen) (defScope s_least_unseen) .none kV_least_unseen dc_least_unseen pm_least_unseen an_least_unseen cd_least_unseen ct_least_unseen), sl_least_unseen⟩)
    (c_least_unseen : PySem.W.codeIn K cd_least_unseen "least_unseen" = true) (k_least_unseen : PySem.W.keepIn K (.ref f_least_unseen) = true)
    {f_web_false : Addr} {od_web_false an_web_false : Option Addr} {sl_web_false : Array (Option Value)} {oc_web_false kV_web_false dc_web_false pm_web_false cd_web_false ct_web_false : Value}
    (a_web_false : PySem.W.nsIn K mainGlobals "web_false" = some (some (.ref f_web_false)))
    (l_web_false : K.lookup f_web_false = some ⟨oc_web_false, od_web_false, .func (PySem.W.fnOf "web_false" "web_false" (defArgs s_web_false) (defBody s_web_false) (defScope s_web_false) .none kV_web_false dc_web_false pm_web_false an_web_false cd_web_false ct_web_false), sl_web_false⟩)
    (c_web_false : PySem.W.codeIn K cd_web_false "web_false" = true) (k_web_false : PySem.W.keepIn K (.ref f_web_false) = true)
    {f__law_is_integer : Addr} {od__law_is_integer an__law_is_integer : Option Addr} {sl__law_is_integer : Array (Option Value)} {oc__law_is_integer kV__law_is_integer dc__law_is_integer pm__law_is_integer cd__law_is_integer ct__law_is_integer : Value}
    (a__law_is_integer : PySem.W.nsIn K mainGlobals "_law_is_integer" = some (some (.ref f__law_is_integer)))
    (l__law_is_integer : K.lookup f__law_is_integer = some ⟨oc__law_is_integer, od__law_is_integer, .func (PySem.W.fnOf "_law_is_integer" "_law_is_integer" (defArgs s__law_is_integer) (defBody s__law_is_integer) (defScope s__law_is_integer) .none kV__law_is_integer dc__law_is_integer pm__law_is_integer an__law_is_integer cd__law_is_integer ct__law_is_integer), sl__law_is_integer⟩)
    (c__law_is_integer : PySem.W.codeIn K cd__law_is_integer "_law_is_integer" = true) (k__law_is_integer : PySem.W.keepIn K (.ref f__law_is_integer) = true)
    {f__law_source : Addr} {od__law_source an__law_source : Option Addr} {sl__law_source : Array (Option Value)} {oc__law_source kV__law_source dc__law_source pm__law_source cd__law_source ct__law_source : Value}
    (a__law_source : PySem.W.nsIn K mainGlobals "_law_source" = some (some (.ref f__law_source)))
    (l__law_source : K.lookup f__law_source = some ⟨oc__law_source, od__law_source, .func (PySem.W.fnOf "_law_source" "_law_source" (defArgs s__law_source) (defBody s__law_source) (defScope s__law_source) .none kV__law_source dc__law_source pm__law_source an__law_source cd__law_source ct__law_source), sl__law_source⟩)
    (c__law_source : PySem.W.codeIn K cd__law_source "_law_source" = true) (k__law_source : PySem.W.keepIn K (.ref f__law_source) = true)
    {f__law_draw : Addr} {od__law_draw an__law_draw : Option Addr} {sl__law_draw : Array (Option Value)} {oc__law_draw kV__law_draw dc__law_draw pm__law_draw cd__law_draw ct__law_draw : Value}
    (a__law_draw : PySem.W.nsIn K mainGlobals "_law_draw" = some (some (.ref f__law_draw)))
    (l__law_draw : K.lookup f__law_draw = some ⟨oc__law_draw, od__law_draw, .func (PySem.W.fnOf "_law_draw" "_law_draw" (defArgs s__law_draw) (defBody s__law_draw) (defScope s__law_draw) .none kV__law_draw dc__law_draw pm__law_draw an__law_draw cd__law_draw ct__law_draw), sl__law_draw⟩)
    (c__law_draw : PySem.W.codeIn K cd__law_draw "_law_draw" = true) (k__law_draw : PySem.W.keepIn K (.ref f__law_draw) = true)
    {f__law_sizes : Addr} {od__law_sizes an__law_sizes : Option Addr} {sl__law_sizes : Array (Option Value)} {oc__law_sizes kV__law_sizes dc__law_sizes pm__law_sizes cd__law_sizes ct__law_sizes : Value}
    (a__law_sizes : PySem.W.nsIn K mainGlobals "_law_sizes" = some (some (.ref f__law_sizes)))
    (l__law_sizes : K.lookup f__law_sizes = some ⟨oc__law_sizes, od__law_sizes, .func (PySem.W.fnOf "_law_sizes" "_law_sizes" (defArgs s__law_sizes) (defBody s__law_sizes) (defScope s__law_sizes) .none kV__law_sizes dc__law_sizes pm__law_sizes an__law_sizes cd__law_sizes ct__law_sizes), sl__law_sizes⟩)
    (c__law_sizes : PySem.W.codeIn K cd__law_sizes "_law_sizes" = true) (k__law_sizes : PySem.W.keepIn K (.ref f__law_sizes) = true)
    {f__law_sure_rows : Addr} {od__law_sure_rows an__law_sure_rows : Option Addr} {sl__law_sure_rows : Array (Option Value)} {oc__law_sure_rows kV__law_sure_rows dc__law_sure_rows pm__law_sure_rows cd__law_sure_rows ct__law_sure_rows : Value}
    (a__law_sure_rows : PySem.W.nsIn K mainGlobals "_law_sure_rows" = some (some (.ref f__law_sure_rows)))
    (l__law_sure_rows : K.lookup f__law_sure_rows = some ⟨oc__law_sure_rows, od__law_sure_rows, .func (PySem.W.fnOf "_law_sure_rows" "_law_sure_rows" (defArgs s__law_sure_rows) (defBody s__law_sure_rows) (defScope s__law_sure_rows) .none kV__law_sure_rows dc__law_sure_rows pm__law_sure_rows an__law_sure_rows cd__law_sure_rows ct__law_sure_rows), sl__law_sure_rows⟩)
    (c__law_sure_rows : PySem.W.codeIn K cd__law_sure_rows "_law_sure_rows" = true) (k__law_sure_rows : PySem.W.keepIn K (.ref f__law_sure_rows) = true)
    {f__law_doubled : Addr} {od__law_doubled an__law_doubled : Option Addr} {sl__law_doubled : Array (Option Value)} {oc__law_doubled kV__law_doubled dc__law_doubled pm__law_doubled cd__law_doubled ct__law_doubled : Value}
    (a__law_doubled : PySem.W.nsIn K mainGlobals "_law_doubled" = some (some (.ref f__law_doubled)))
    (l__law_doubled : K.lookup f__law_doubled = some ⟨oc__law_doubled, od__law_doubled, .func (PySem.W.fnOf "_law_doubled" "_law_doubled" (defArgs s__law_doubled) (defBody s__law_doubled) (defScope s__law_doubled) .none kV__law_doubled dc__law_doubled pm__law_doubled an__law_doubled cd__law_doubled ct__law_doubled), sl__law_doubled⟩)
    (c__law_doubled : PySem.W.codeIn K cd__law_doubled "_law_doubled" = true) (k__law_doubled : PySem.W.keepIn K (.ref f__law_doubled) = true)
    {f__law_parts_of : Addr} {od__law_parts_of an__law_parts_of : Option Addr} {sl__law_parts_of : Array (Option Value)} {oc__law_parts_of kV__law_parts_of dc__law_parts_of pm__law_parts_of cd__law_parts_of ct__law_parts_of : Value}
    (a__law_parts_of : PySem.W.nsIn K mainGlobals "_law_parts_of" = some (some (.ref f__law_parts_of)))
    (l__law_parts_of : K.lookup f__law_parts_of = some ⟨oc__law_parts_of, od__law_parts_of, .func (PySem.W.fnOf "_law_parts_of" "_law_parts_of" (defArgs s__law_parts_of) (defBody s__law_parts_of) (defScope s__law_parts_of) .none kV__law_parts_of dc__law_parts_of pm__law_parts_of an__law_parts_of cd__law_parts_of ct__law_parts_of), sl__law_parts_of⟩)
    (c__law_parts_of : PySem.W.codeIn K cd__law_parts_of "_law_parts_of" = true) (k__law_parts_of : PySem.W.keepIn K (.ref f__law_parts_of) = true)
    {f__law_sure_parts : Addr} {od__law_sure_parts an__law_sure_parts : Option Addr} {sl__law_sure_parts : Array (Option Value)} {oc__law_sure_parts kV__law_sure_parts dc__law_sure_parts pm__law_sure_parts cd__law_sure_parts ct__law_sure_parts : Value}
    (a__law_sure_parts : PySem.W.nsIn K mainGlobals "_law_sure_parts" = some (some (.ref f__law_sure_parts)))
    (l__law_sure_parts : K.lookup f__law_sure_parts = some ⟨oc__law_sure_parts, od__law_sure_parts, .func (PySem.W.fnOf "_law_sure_parts" "_law_sure_parts" (defArgs s__law_sure_parts) (defBody s__law_sure_parts) (defScope s__law_sure_parts) .none kV__law_sure_parts dc__law_sure_parts pm__law_sure_parts an__law_sure_parts cd__law_sure_parts ct__law_sure_parts), sl__law_sure_parts⟩)
    (c__law_sure_parts : PySem.W.codeIn K cd__law_sure_parts "_law_sure_parts" = true) (k__law_sure_parts : PySem.W.keepIn K (.ref f__law_sure_parts) = true)
    {f__law_loose_parts : Addr} {od__law_loose_parts an__law_loose_parts : Option Addr} {sl__law_loose_parts : Array (Option Value)} {oc__law_loose_parts kV__law_loose_parts dc__law_loose_parts pm__law_loose_parts cd__law_loose_parts ct__law_loose_parts : Value}
    (a__law_loose_parts : PySem.W.nsIn K mainGlobals "_law_loose_parts" = some (some (.ref f__law_loose_parts)))
    (l__law_loose_parts : K.lookup f__law_loose_parts = some ⟨oc__law_loose_parts, od__law_loose_parts, .func (PySem.W.fnOf "_law_loose_parts" "_law_loose_parts" (defArgs s__law_loose_parts) (defBody s__law_loose_parts) (defScope s__law_loose_parts) .none kV__law_loose_parts dc__law_loose_parts pm__law_loose_parts an__law_loose_parts cd__law_loose_parts ct__law_loose_parts), sl__law_loose_parts⟩)
    (c__law_loose_parts : PySem.W.codeIn K cd__law_loose_parts "_law_loose_parts" = true) (k__law_loose_parts : PySem.W.keepIn K (.ref f__law_loose_parts) = true)
    {f__law_parts : Addr} {od__law_parts an__law_parts : Option Addr} {sl__law_parts : Array (Option Value)} {oc__law_parts kV__law_parts dc__law_parts pm__law_parts cd__law_parts ct__law_parts : Value}
    (a__law_parts : PySem.W.nsIn K mainGlobals "_law_parts" = some (some (.ref f__law_parts)))
    (l__law_parts : K.lookup f__law_parts = some ⟨oc__law_parts, od__law_parts, .func (PySem.W.fnOf "_law_parts" "_law_parts" (defArgs s__law_parts) (defBody s__law_parts) (defScope s__law_parts) .none kV__law_parts dc__law_parts pm__law_parts an__law_parts cd__law_parts ct__law_parts), sl__law_parts⟩)
    (c__law_parts : PySem.W.codeIn K cd__law_parts "_law_parts" = true) (k__law_parts : PySem.W.keepIn K (.ref f__law_parts) = true)
    {f__law_made : Addr} {od__law_made an__law_made : Option Addr} {sl__law_made : Array (Option Value)} {oc__law_made kV__law_made dc__law_made pm__law_made cd__law_made ct__law_made : Value}
    (a__law_made : PySem.W.nsIn K mainGlobals "_law_made" = some (some (.ref f__law_made)))
    (l__law_made : K.lookup f__law_made = some ⟨oc__law_made, od__law_made, .func (PySem.W.fnOf "_law_made" "_law_made" (defArgs s__law_made) (defBody s__law_made) (defScope s__law_made) .none kV__law_made dc__law_made pm__law_made an__law_made cd__law_made ct__law_made), sl__law_made⟩)
    (c__law_made : PySem.W.codeIn K cd__law_made "_law_made" = true) (k__law_made : PySem.W.keepIn K (.ref f__law_made) = true)
    {f__law_steps : Addr} {od__law_steps an__law_steps : Option Addr} {sl__law_steps : Array (Option Value)} {oc__law_steps kV__law_steps dc__law_steps pm__law_steps cd__law_steps ct__law_steps : Value}
    (a__law_steps : PySem.W.nsIn K mainGlobals "_law_steps" = some (some (.ref f__law_steps)))
    (l__law_steps : K.lookup f__law_steps = some ⟨oc__law_steps, od__law_steps, .func (PySem.W.fnOf "_law_steps" "_law_steps" (defArgs s__law_steps) (defBody s__law_steps) (defScope s__law_steps) .none kV__law_steps dc__law_steps pm__law_steps an__law_steps cd__law_steps ct__law_steps), sl__law_steps⟩)
    (c__law_steps : PySem.W.codeIn K cd__law_steps "_law_steps" = true) (k__law_steps : PySem.W.keepIn K (.ref f__law_steps) = true)
    {f__law_goals : Addr} {od__law_goals an__law_goals : Option Addr} {sl__law_goals : Array (Option Value)} {oc__law_goals kV__law_goals dc__law_goals pm__law_goals cd__law_goals ct__law_goals : Value}
    (a__law_goals : PySem.W.nsIn K mainGlobals "_law_goals" = some (some (.ref f__law_goals)))
    (l__law_goals : K.lookup f__law_goals = some ⟨oc__law_goals, od__law_goals, .func (PySem.W.fnOf "_law_goals" "_law_goals" (defArgs s__law_goals) (defBody s__law_goals) (defScope s__law_goals) .none kV__law_goals dc__law_goals pm__law_goals an__law_goals cd__law_goals ct__law_goals), sl__law_goals⟩)
    (c__law_goals : PySem.W.codeIn K cd__law_goals "_law_goals" = true) (k__law_goals : PySem.W.keepIn K (.ref f__law_goals) = true)
    {f__law_lasts : Addr} {od__law_lasts an__law_lasts : Option Addr} {sl__law_lasts : Array (Option Value)} {oc__law_lasts kV__law_lasts dc__law_lasts pm__law_lasts cd__law_lasts ct__law_lasts : Value}
    (a__law_lasts : PySem.W.nsIn K mainGlobals "_law_lasts" = some (some (.ref f__law_lasts)))
    (l__law_lasts : K.lookup f__law_lasts = some ⟨oc__law_lasts, od__law_lasts, .func (PySem.W.fnOf "_law_lasts" "_law_lasts" (defArgs s__law_lasts) (defBody s__law_lasts) (defScope s__law_lasts) .none kV__law_lasts dc__law_lasts pm__law_lasts an__law_lasts cd__law_lasts ct__law_lasts), sl__law_lasts⟩)
    (c__law_lasts : PySem.W.codeIn K cd__law_lasts "_law_lasts" = true) (k__law_lasts : PySem.W.keepIn K (.ref f__law_lasts) = true)
    {f__law_true_days : Addr} {od__law_true_days an__law_true_days : Option Addr} {sl__law_true_days : Array (Option Value)} {oc__law_true_days kV__law_true_days dc__law_true_days pm__law_true_days cd__law_true_days ct__law_true_days : Value}
    (a__law_true_days : PySem.W.nsIn K mainGlobals "_law_true_days" = some (some (.ref f__law_true_days)))
    (l__law_true_days : K.lookup f__law_true_days = some ⟨oc__law_true_days, od__law_true_days, .func (PySem.W.fnOf "_law_true_days" "_law_true_days" (defArgs s__law_true_days) (defBody s__law_true_days) (defScope s__law_true_days) .none kV__law_true_days dc__law_true_days pm__law_true_days an__law_true_days cd__law_true_days ct__law_true_days), sl__law_true_days⟩)
    (c__law_true_days : PySem.W.codeIn K cd__law_true_days "_law_true_days" = true) (k__law_true_days : PySem.W.keepIn K (.ref f__law_true_days) = true)
    {f__law_all_days : Addr} {od__law_all_days an__law_all_days : Option Addr} {sl__law_all_days : Array (Option Value)} {oc__law_all_days kV__law_all_days dc__law_all_days pm__law_all_days cd__law_all_days ct__law_all_days : Value}
    (a__law_all_days : PySem.W.nsIn K mainGlobals "_law_all_days" = some (some (.ref f__law_all_days)))
    (l__law_all_days : K.lookup f__law_all_days = some ⟨oc__law_all_days, od__law_all_days, .func (PySem.W.fnOf "_law_all_days" "_law_all_days" (defArgs s__law_all_days) (defBody s__law_all_days) (defScope s__law_all_days) .none kV__law_all_days dc__law_all_days pm__law_all_days an__law_all_days cd__law_all_days ct__law_all_days), sl__law_all_days⟩)
    (c__law_all_days : PySem.W.codeIn K cd__law_all_days "_law_all_days" = true) (k__law_all_days : PySem.W.keepIn K (.ref f__law_all_days) = true)
    {f__law_people : Addr} {od__law_people an__law_people : Option Addr} {sl__law_people : Array (Option Value)} {oc__law_people kV__law_people dc__law_people pm__law_people cd__law_people ct__law_people : Value}
    (a__law_people : PySem.W.nsIn K mainGlobals "_law_people" = some (some (.ref f__law_people)))
    (l__law_people : K.lookup f__law_people = some ⟨oc__law_people, od__law_people, .func (PySem.W.fnOf "_law_people" "_law_people" (defArgs s__law_people) (defBody s__law_people) (defScope s__law_people) .none kV__law_people dc__law_people pm__law_people an__law_people cd__law_people ct__law_people), sl__law_people⟩)
    (c__law_people : PySem.W.codeIn K cd__law_people "_law_people" = true) (k__law_people : PySem.W.keepIn K (.ref f__law_people) = true)
    {f__law_board : Addr} {od__law_board an__law_board : Option Addr} {sl__law_board : Array (Option Value)} {oc__law_board kV__law_board dc__law_board pm__law_board cd__law_board ct__law_board : Value}
    (a__law_board : PySem.W.nsIn K mainGlobals "_law_board" = some (some (.ref f__law_board)))
    (l__law_board : K.lookup f__law_board = some ⟨oc__law_board, od__law_board, .func (PySem.W.fnOf "_law_board" "_law_board" (defArgs s__law_board) (defBody s__law_board) (defScope s__law_board) .none kV__law_board dc__law_board pm__law_board an__law_board cd__law_board ct__law_board), sl__law_board⟩)
    (c__law_board : PySem.W.codeIn K cd__law_board "_law_board" = true) (k__law_board : PySem.W.keepIn K (.ref f__law_board) = true)
    {f__law_part : Addr} {od__law_part an__law_part : Option Addr} {sl__law_part : Array (Option Value)} {oc__law_part kV__law_part dc__law_part pm__law_part cd__law_part ct__law_part : Value}
    (a__law_part : PySem.W.nsIn K mainGlobals "_law_part" = some (some (.ref f__law_part)))
    (l__law_part : K.lookup f__law_part = some ⟨oc__law_part, od__law_part, .func (PySem.W.fnOf "_law_part" "_law_part" (defArgs s__law_part) (defBody s__law_part) (defScope s__law_part) .none kV__law_part dc__law_part pm__law_part an__law_part cd__law_part ct__law_part), sl__law_part⟩)
    (c__law_part : PySem.W.codeIn K cd__law_part "_law_part" = true) (k__law_part : PySem.W.keepIn K (.ref f__law_part) = true)
    {f__law_tables : Addr} {od__law_tables an__law_tables : Option Addr} {sl__law_tables : Array (Option Value)} {oc__law_tables kV__law_tables dc__law_tables pm__law_tables cd__law_tables ct__law_tables : Value}
    (a__law_tables : PySem.W.nsIn K mainGlobals "_law_tables" = some (some (.ref f__law_tables)))
    (l__law_tables : K.lookup f__law_tables = some ⟨oc__law_tables, od__law_tables, .func (PySem.W.fnOf "_law_tables" "_law_tables" (defArgs s__law_tables) (defBody s__law_tables) (defScope s__law_tables) .none kV__law_tables dc__law_tables pm__law_tables an__law_tables cd__law_tables ct__law_tables), sl__law_tables⟩)
    (c__law_tables : PySem.W.codeIn K cd__law_tables "_law_tables" = true) (k__law_tables : PySem.W.keepIn K (.ref f__law_tables) = true)
    {f__law_unseen : Addr} {od__law_unseen an__law_unseen : Option Addr} {sl__law_unseen : Array (Option Value)} {oc__law_unseen kV__law_unseen dc__law_unseen pm__law_unseen cd__law_unseen ct__law_unseen : Value}
    (a__law_unseen : PySem.W.nsIn K mainGlobals "_law_unseen" = some (some (.ref f__law_unseen)))
    (l__law_unseen : K.lookup f__law_unseen = some ⟨oc__law_unseen, od__law_unseen, .func (PySem.W.fnOf "_law_unseen" "_law_unseen" (defArgs s__law_unseen) (defBody s__law_unseen) (defScope s__law_unseen) .none kV__law_unseen dc__law_unseen pm__law_unseen an__law_unseen cd__law_unseen ct__law_unseen), sl__law_unseen⟩)
    (c__law_unseen : PySem.W.codeIn K cd__law_unseen "_law_unseen" = true) (k__law_unseen : PySem.W.keepIn K (.ref f__law_unseen) = true)
    {f__law_same : Addr} {od__law_same an__law_same : Option Addr} {sl__law_same : Array (Option Value)} {oc__law_same kV__law_same dc__law_same pm__law_same cd__law_same ct__law_same : Value}
    (a__law_same : PySem.W.nsIn K mainGlobals "_law_same" = some (some (.ref f__law_same)))
    (l__law_same : K.lookup f__law_same = some ⟨oc__law_same, od__law_same, .func (PySem.W.fnOf "_law_same" "_law_same" (defArgs s__law_same) (defBody s__law_same) (defScope s__law_same) .none kV__law_same dc__law_same pm__law_same an__law_same cd__law_same ct__law_same), sl__law_same⟩)
    (c__law_same : PySem.W.codeIn K cd__law_same "_law_same" = true) (k__law_same : PySem.W.keepIn K (.ref f__law_same) = true)
    {f__law_lot : Addr} {od__law_lot an__law_lot : Option Addr} {sl__law_lot : Array (Option Value)} {oc__law_lot kV__law_lot dc__law_lot pm__law_lot cd__law_lot ct__law_lot : Value}
    (a__law_lot : PySem.W.nsIn K mainGlobals "_law_lot" = some (some (.ref f__law_lot)))
    (l__law_lot : K.lookup f__law_lot = some ⟨oc__law_lot, od__law_lot, .func (PySem.W.fnOf "_law_lot" "_law_lot" (defArgs s__law_lot) (defBody s__law_lot) (defScope s__law_lot) .none kV__law_lot dc__law_lot pm__law_lot an__law_lot cd__law_lot ct__law_lot), sl__law_lot⟩)
    (c__law_lot : PySem.W.codeIn K cd__law_lot "_law_lot" = true) (k__law_lot : PySem.W.keepIn K (.ref f__law_lot) = true)
    {f__law_tree : Addr} {od__law_tree an__law_tree : Option Addr} {sl__law_tree : Array (Option Value)} {oc__law_tree kV__law_tree dc__law_tree pm__law_tree cd__law_tree ct__law_tree : Value}
    (a__law_tree : PySem.W.nsIn K mainGlobals "_law_tree" = some (some (.ref f__law_tree)))
    (l__law_tree : K.lookup f__law_tree = some ⟨oc__law_tree, od__law_tree, .func (PySem.W.fnOf "_law_tree" "_law_tree" (defArgs s__law_tree) (defBody s__law_tree) (defScope s__law_tree) .none kV__law_tree dc__law_tree pm__law_tree an__law_tree cd__law_tree ct__law_tree), sl__law_tree⟩)
    (c__law_tree : PySem.W.codeIn K cd__law_tree "_law_tree" = true) (k__law_tree : PySem.W.keepIn K (.ref f__law_tree) = true)
    {f__law_web : Addr} {od__law_web an__law_web : Option Addr} {sl__law_web : Array (Option Value)} {oc__law_web kV__law_web dc__law_web pm__law_web cd__law_web ct__law_web : Value}
    (a__law_web : PySem.W.nsIn K mainGlobals "_law_web" = some (some (.ref f__law_web)))
    (l__law_web : K.lookup f__law_web = some ⟨oc__law_web, od__law_web, .func (PySem.W.fnOf "_law_web" "_law_web" (defArgs s__law_web) (defBody s__law_web) (defScope s__law_web) .none kV__law_web dc__law_web pm__law_web an__law_web cd__law_web ct__law_web), sl__law_web⟩)
    (c__law_web : PySem.W.codeIn K cd__law_web "_law_web" = true) (k__law_web : PySem.W.keepIn K (.ref f__law_web) = true)
    {f__law_false_of : Addr} {od__law_false_of an__law_false_of : Option Addr} {sl__law_false_of : Array (Option Value)} {oc__law_false_of kV__law_false_of dc__law_false_of pm__law_false_of cd__law_false_of ct__law_false_of : Value}
    (a__law_false_of : PySem.W.nsIn K mainGlobals "_law_false_of" = some (some (.ref f__law_false_of)))
    (l__law_false_of : K.lookup f__law_false_of = some ⟨oc__law_false_of, od__law_false_of, .func (PySem.W.fnOf "_law_false_of" "_law_false_of" (defArgs s__law_false_of) (defBody s__law_false_of) (defScope s__law_false_of) .none kV__law_false_of dc__law_false_of pm__law_false_of an__law_false_of cd__law_false_of ct__law_false_of), sl__law_false_of⟩)
    (c__law_false_of : PySem.W.codeIn K cd__law_false_of "_law_false_of" = true) (k__law_false_of : PySem.W.keepIn K (.ref f__law_false_of) = true)
    {f_LAW : Addr} {od_LAW an_LAW : Option Addr} {sl_LAW : Array (Option Value)} {oc_LAW kV_LAW dc_LAW pm_LAW cd_LAW ct_LAW : Value}
    (a_LAW : PySem.W.nsIn K mainGlobals "law" = some (some (.ref f_LAW)))
    (l_LAW : K.lookup f_LAW = some ⟨oc_LAW, od_LAW, .func (PySem.W.fnOf "law" "law" (defArgs s_law) (defBody s_law) (defScope s_law) .none kV_LAW dc_LAW pm_LAW an_LAW cd_LAW ct_LAW), sl_LAW⟩)
    (c_LAW : PySem.W.codeIn K cd_LAW "law" = true) (k_LAW : PySem.W.keepIn K (.ref f_LAW) = true)
    (z_len : PySem.W.nsIn K mainGlobals "len" = some none)
    (z_range : PySem.W.nsIn K mainGlobals "range" = some none)
    (z_isinstance : PySem.W.nsIn K mainGlobals "isinstance" = some none)
    (z_int : PySem.W.nsIn K mainGlobals "int" = some none)
    (z_bool : PySem.W.nsIn K mainGlobals "bool" = some none)
    (z_str : PySem.W.nsIn K mainGlobals "str" = some none)
    (z_tuple : PySem.W.nsIn K mainGlobals "tuple" = some none)
    (z_list : PySem.W.nsIn K mainGlobals "list" = some none)
    (z_set : PySem.W.nsIn K mainGlobals "set" = some none)
    (z_sorted : PySem.W.nsIn K mainGlobals "sorted" = some none)
    (z_enumerate : PySem.W.nsIn K mainGlobals "enumerate" = some none)
    (z_zip : PySem.W.nsIn K mainGlobals "zip" = some none)
    (z_any : PySem.W.nsIn K mainGlobals "any" = some none)
    (z_all : PySem.W.nsIn K mainGlobals "all" = some none)
    (z_min : PySem.W.nsIn K mainGlobals "min" = some none)
    (z_max : PySem.W.nsIn K mainGlobals "max" = some none)
    {t_MOST_SIZE : Nat} (v_MOST_SIZE : PySem.W.nsIn K mainGlobals "MOST_SIZE" = some (some (.int 4 t_MOST_SIZE)))
    {t_MOST_STANDINGS : Nat} (v_MOST_STANDINGS : PySem.W.nsIn K mainGlobals "MOST_STANDINGS" = some (some (.int 20 t_MOST_STANDINGS)))
    {t_MOST_PEOPLE : Nat} (v_MOST_PEOPLE : PySem.W.nsIn K mainGlobals "MOST_PEOPLE" = some (some (.int 6 t_MOST_PEOPLE)))
    {t_MOST_DAYS : Nat} (v_MOST_DAYS : PySem.W.nsIn K mainGlobals "MOST_DAYS" = some (some (.int 2000 t_MOST_DAYS)))
    (pg : PySem.W.plainGet K C Str.empty = true) (hd : PySem.W.hasDictIn K C = true) (po : PySem.W.plainOver K C = true) (sa : PySem.W.findIn K (.ref C) "__setattr__" = some (some (.builtin "object.__setattr__"))) (mk : PySem.W.makesIn K C = true) (kc : PySem.W.keepIn K (.ref C) = true)
    (nS : PySem.W.findIn K (.ref C) "sizes" = some none)
    (nM : PySem.W.findIn K (.ref C) "moves" = some none)
    (nC : PySem.W.findIn K (.ref C) "closings" = some none)
    (nK : PySem.W.findIn K (.ref C) "kept_goals" = some none) :
    ∃ fd : FuncData, (∀ (s : Shared) (v : Value), BindsTo s fd ⟨[v], []⟩ [("_law_script", v)]) ∧ ∀ base : Heap, K.In base → base.Ns mainGlobals mg → FnOk l.prog w K mg base CX0 8 fa fd ["_law_script"] (spLaw K) := by
  have e := hfa.symm.trans (PySem.W.mg_of X G a_LAW)
  cases e
  have T : TxtO K mg C := ⟨⟨pg, hd, po, sa⟩, nS, nM, nC, nK, PySem.W.mg_of X G aC⟩
  have B : Bi mg := ⟨PySem.W.mg_none_of X G z_len, PySem.W.mg_none_of X G z_range, PySem.W.mg_none_of X G z_isinstance, PySem.W.mg_none_of X G z_int, PySem.W.mg_none_of X G z_bool, PySem.W.mg_none_of X G z_str, PySem.W.mg_none_of X G z_tuple, PySem.W.mg_none_of X G z_list, PySem.W.mg_none_of X G z_set, PySem.W.mg_none_of X G z_sorted, PySem.W.mg_none_of X G z_enumerate, PySem.W.mg_none_of X G z_zip, PySem.W.mg_none_of X G z_any, PySem.W.mg_none_of X G z_all, PySem.W.mg_none_of X G z_min, PySem.W.mg_none_of X G z_max⟩
  have Cm : Cs mg := ⟨⟨_, PySem.W.mg_of X G v_MOST_SIZE⟩, ⟨_, PySem.W.mg_of X G v_MOST_STANDINGS⟩, ⟨_, PySem.W.mg_of X G v_MOST_PEOPLE⟩, ⟨_, PySem.W.mg_of X G v_MOST_DAYS⟩⟩
  have F_init := fun_mk (st := s_init) l_init c_init k_init
  have F_keep := fun_mk (st := s_keep) l_keep c_keep k_keep
  have F_law := fun_mk (st := s_law) l_LAW c_LAW k_LAW
  have d_init : DfI K C "__init__" "Office.__init__" s_init ["self", "sizes", "moves", "closings"] := ⟨_, _, F_init, ⟨mk, a_init, i_init, kc⟩, F_init.binds (ps := ["self", "sizes", "moves", "closings"]) (fun _ _ _ _ _ _ us hl => match us, hl with | [_, _, _, _], _ => rfl)⟩
  have d_keep : DfM K C "keep" "Office.keep" s_keep ["self", "sizes", "moves", "closings"] := ⟨_, _, F_keep, ⟨a_keep, i_keep, k_keep⟩, F_keep.binds (ps := ["self", "sizes", "moves", "closings"]) (fun _ _ _ _ _ _ us hl => match us, hl with | [_, _, _, _], _ => rfl)⟩
  have d_is_integer : Df K mg "is_integer" "is_integer" s_is_integer ["thing"] := df_mk X G a_is_integer l_is_integer c_is_integer k_is_integer (fun _ _ _ _ _ _ us hl => match us, hl with | [_], _ => rfl)
  have d_is_within : Df K mg "is_within" "is_within" s_is_within ["thing", "least", "most"] := df_mk X G a_is_within l_is_within c_is_within k_is_within (fun _ _ _ _ _ _ us hl => match us, hl with | [_, _, _], _ => rfl)
  have d_is_triple : Df K mg "is_triple" "is_triple" s_is_triple ["thing"] := df_mk X G a_is_triple l_is_triple c_is_triple k_is_triple (fun _ _ _ _ _ _ us hl => match us, hl with | [_], _ => rfl)
  have d_are_ascending : Df K mg "are_ascending" "are_ascending" s_are_ascending ["things"] := df_mk X G a_are_ascending l_are_ascending c_are_ascending k_are_ascending (fun _ _ _ _ _ _ us hl => match us, hl with | [_], _ => rfl)
  have d_is_lot_below : Df K mg "is_lot_below" "is_lot_below" s_is_lot_below ["thing", "many"] := df_mk X G a_is_lot_below l_is_lot_below c_is_lot_below k_is_lot_below (fun _ _ _ _ _ _ us hl => match us, hl with | [_, _], _ => rfl)
  have d_check_number : Df K mg "check_number" "check_number" s_check_number ["thing", "least", "most"] := df_mk X G a_check_number l_check_number c_check_number k_check_number (fun _ _ _ _ _ _ us hl => match us, hl with | [_, _, _], _ => rfl)
  have d_are_sizes : Df K mg "are_sizes" "are_sizes" s_are_sizes ["thing"] := df_mk X G a_are_sizes l_are_sizes c_are_sizes k_are_sizes (fun _ _ _ _ _ _ us hl => match us, hl with | [_], _ => rfl)
  have d_is_move : Df K mg "is_move" "is_move" s_is_move ["sizes", "many", "thing"] := df_mk X G a_is_move l_is_move c_is_move k_is_move (fun _ _ _ _ _ _ us hl => match us, hl with | [_, _, _], _ => rfl)
  have d_are_moves : Df K mg "are_moves" "are_moves" s_are_moves ["sizes", "thing"] := df_mk X G a_are_moves l_are_moves c_are_moves k_are_moves (fun _ _ _ _ _ _ us hl => match us, hl with | [_, _], _ => rfl)
  have d_are_closings : Df K mg "are_closings" "are_closings" s_are_closings ["sizes", "many", "thing"] := df_mk X G a_are_closings l_are_closings c_are_closings k_are_closings (fun _ _ _ _ _ _ us hl => match us, hl with | [_, _, _], _ => rfl)
  have d_board_of : Df K mg "board_of" "board_of" s_board_of ["day"] := df_mk X G a_board_of l_board_of c_board_of k_board_of (fun _ _ _ _ _ _ us hl => match us, hl with | [_], _ => rfl)
  have d_goals_of : Df K mg "goals_of" "goals_of" s_goals_of ["office", "standings", "step"] := df_mk X G a_goals_of l_goals_of c_goals_of k_goals_of (fun _ _ _ _ _ _ us hl => match us, hl with | [_, _, _], _ => rfl)
  have d_shuts_with : Df K mg "shuts_with" "shuts_with" s_shuts_with ["office", "standings", "last"] := df_mk X G a_shuts_with l_shuts_with c_shuts_with k_shuts_with (fun _ _ _ _ _ _ us hl => match us, hl with | [_, _, _], _ => rfl)
  have d_all_steps : Df K mg "all_steps" "all_steps" s_all_steps ["office"] := df_mk X G a_all_steps l_all_steps c_all_steps k_all_steps (fun _ _ _ _ _ _ us hl => match us, hl with | [_], _ => rfl)
  have d_alive_layers : Df K mg "alive_layers" "alive_layers" s_alive_layers ["office", "many"] := df_mk X G a_alive_layers l_alive_layers c_alive_layers k_alive_layers (fun _ _ _ _ _ _ us hl => match us, hl with | [_, _], _ => rfl)
  have d_begins_of : Df K mg "begins_of" "begins_of" s_begins_of ["office", "many", "most"] := df_mk X G a_begins_of l_begins_of c_begins_of k_begins_of (fun _ _ _ _ _ _ us hl => match us, hl with | [_, _, _], _ => rfl)
  have d_days_of : Df K mg "days_of" "days_of" s_days_of ["office", "many", "most"] := df_mk X G a_days_of l_days_of c_days_of k_days_of (fun _ _ _ _ _ _ us hl => match us, hl with | [_, _, _], _ => rfl)
  have d_steps_with : Df K mg "steps_with" "steps_with" s_steps_with ["office", "mark"] := df_mk X G a_steps_with l_steps_with c_steps_with k_steps_with (fun _ _ _ _ _ _ us hl => match us, hl with | [_, _], _ => rfl)
  have d_check_people : Df K mg "check_people" "check_people" s_check_people ["many"] := df_mk X G a_check_people l_check_people c_check_people k_check_people (fun _ _ _ _ _ _ us hl => match us, hl with | [_], _ => rfl)
  have d_are_lots : Df K mg "are_lots" "are_lots" s_are_lots ["many", "thing"] := df_mk X G a_are_lots l_are_lots c_are_lots k_are_lots (fun _ _ _ _ _ _ us hl => match us, hl with | [_, _], _ => rfl)
  have d_rows_by_board : Df K mg "rows_by_board" "rows_by_board" s_rows_by_board ["days"] := df_mk X G a_rows_by_board l_rows_by_board c_rows_by_board k_rows_by_board (fun _ _ _ _ _ _ us hl => match us, hl with | [_], _ => rfl)
  have d_part_of : Df K mg "part_of" "part_of" s_part_of ["steps", "lot"] := df_mk X G a_part_of l_part_of c_part_of k_part_of (fun _ _ _ _ _ _ us hl => match us, hl with | [_, _], _ => rfl)
  have d_ways_into : Df K mg "ways_into" "ways_into" s_ways_into ["web", "rows", "place"] := df_mk X G a_ways_into l_ways_into c_ways_into k_ways_into (fun _ _ _ _ _ _ us hl => match us, hl with | [_, _, _], _ => rfl)
  have d_like_rows : Df K mg "like_rows" "like_rows" s_like_rows ["office", "marks", "web", "rows"] := df_mk X G a_like_rows l_like_rows c_like_rows k_like_rows (fun _ _ _ _ _ _ us hl => match us, hl with | [_, _, _, _], _ => rfl)
  have d_false_on_board : Df K mg "false_on_board" "false_on_board" s_false_on_board ["office", "the_board", "web", "rows"] := df_mk X G a_false_on_board l_false_on_board c_false_on_board k_false_on_board (fun _ _ _ _ _ _ us hl => match us, hl with | [_, _, _, _], _ => rfl)
  have d_check_days : Df K mg "check_days" "check_days" s_check_days ["days"] := df_mk X G a_check_days l_check_days c_check_days k_check_days (fun _ _ _ _ _ _ us hl => match us, hl with | [_], _ => rfl)
  have d_false_without_lots : Df K mg "false_without_lots" "false_without_lots" s_false_without_lots ["office", "many", "days"] := df_mk X G a_false_without_lots l_false_without_lots c_false_without_lots k_false_without_lots (fun _ _ _ _ _ _ us hl => match us, hl with | [_, _, _], _ => rfl)
  have d_least_unseen : Df K mg "least_unseen" "least_unseen" s_least_unseen ["office", "many", "web"] := df_mk X G a_least_unseen l_least_unseen c_least_unseen k_least_unseen (fun _ _ _ _ _ _ us hl => match us, hl with | [_, _, _], _ => rfl)
  have d_web_false : Df K mg "web_false" "web_false" s_web_false ["office", "many", "web"] := df_mk X G a_web_false l_web_false c_web_false k_web_false (fun _ _ _ _ _ _ us hl => match us, hl with | [_, _, _], _ => rfl)
  have d__law_is_integer : Df K mg "_law_is_integer" "_law_is_integer" s__law_is_integer ["_law_thing"] := df_mk X G a__law_is_integer l__law_is_integer c__law_is_integer k__law_is_integer (fun _ _ _ _ _ _ us hl => match us, hl with | [_], _ => rfl)
  have d__law_source : Df K mg "_law_source" "_law_source" s__law_source ["_law_script", "_law_k"] := df_mk X G a__law_source l__law_source c__law_source k__law_source (fun _ _ _ _ _ _ us hl => match us, hl with | [_, _], _ => rfl)
  have d__law_draw : Df K mg "_law_draw" "_law_draw" s__law_draw ["_law_source_here", "_law_many"] := df_mk X G a__law_draw l__law_draw c__law_draw k__law_draw (fun _ _ _ _ _ _ us hl => match us, hl with | [_, _], _ => rfl)
  have d__law_sizes : Df K mg "_law_sizes" "_law_sizes" s__law_sizes ["_law_source_here"] := df_mk X G a__law_sizes l__law_sizes c__law_sizes k__law_sizes (fun _ _ _ _ _ _ us hl => match us, hl with | [_], _ => rfl)
  have d__law_sure_rows : Df K mg "_law_sure_rows" "_law_sure_rows" s__law_sure_rows ["_law_source_here", "_law_sizes_here", "_law_many"] := df_mk X G a__law_sure_rows l__law_sure_rows c__law_sure_rows k__law_sure_rows (fun _ _ _ _ _ _ us hl => match us, hl with | [_, _, _], _ => rfl)
  have d__law_doubled : Df K mg "_law_doubled" "_law_doubled" s__law_doubled ["_law_source_here", "_law_moves", "_law_closings"] := df_mk X G a__law_doubled l__law_doubled c__law_doubled k__law_doubled (fun _ _ _ _ _ _ us hl => match us, hl with | [_, _, _], _ => rfl)
  have d__law_parts_of : Df K mg "_law_parts_of" "_law_parts_of" s__law_parts_of ["_law_sizes_here", "_law_moves", "_law_closings"] := df_mk X G a__law_parts_of l__law_parts_of c__law_parts_of k__law_parts_of (fun _ _ _ _ _ _ us hl => match us, hl with | [_, _, _], _ => rfl)
  have d__law_sure_parts : Df K mg "_law_sure_parts" "_law_sure_parts" s__law_sure_parts ["_law_source_here"] := df_mk X G a__law_sure_parts l__law_sure_parts c__law_sure_parts k__law_sure_parts (fun _ _ _ _ _ _ us hl => match us, hl with | [_], _ => rfl)
  have d__law_loose_parts : Df K mg "_law_loose_parts" "_law_loose_parts" s__law_loose_parts ["_law_source_here"] := df_mk X G a__law_loose_parts l__law_loose_parts c__law_loose_parts k__law_loose_parts (fun _ _ _ _ _ _ us hl => match us, hl with | [_], _ => rfl)
  have d__law_parts : Df K mg "_law_parts" "_law_parts" s__law_parts ["_law_source_here"] := df_mk X G a__law_parts l__law_parts c__law_parts k__law_parts (fun _ _ _ _ _ _ us hl => match us, hl with | [_], _ => rfl)
  have d__law_made : Df K mg "_law_made" "_law_made" s__law_made ["_law_parts_here"] := df_mk X G a__law_made l__law_made c__law_made k__law_made (fun _ _ _ _ _ _ us hl => match us, hl with | [_], _ => rfl)
  have d__law_steps : Df K mg "_law_steps" "_law_steps" s__law_steps ["_law_sizes_here"] := df_mk X G a__law_steps l__law_steps c__law_steps k__law_steps (fun _ _ _ _ _ _ us hl => match us, hl with | [_], _ => rfl)
  have d__law_goals : Df K mg "_law_goals" "_law_goals" s__law_goals ["_law_parts_here", "_law_standings", "_law_step"] := df_mk X G a__law_goals l__law_goals c__law_goals k__law_goals (fun _ _ _ _ _ _ us hl => match us, hl with | [_, _, _], _ => rfl)
  have d__law_lasts : Df K mg "_law_lasts" "_law_lasts" s__law_lasts ["_law_parts_here", "_law_standings"] := df_mk X G a__law_lasts l__law_lasts c__law_lasts k__law_lasts (fun _ _ _ _ _ _ us hl => match us, hl with | [_, _], _ => rfl)
  have d__law_true_days : Df K mg "_law_true_days" "_law_true_days" s__law_true_days ["_law_parts_here", "_law_many"] := df_mk X G a__law_true_days l__law_true_days c__law_true_days k__law_true_days (fun _ _ _ _ _ _ us hl => match us, hl with | [_, _], _ => rfl)
  have d__law_all_days : Df K mg "_law_all_days" "_law_all_days" s__law_all_days ["_law_sizes_here", "_law_many"] := df_mk X G a__law_all_days l__law_all_days c__law_all_days k__law_all_days (fun _ _ _ _ _ _ us hl => match us, hl with | [_, _], _ => rfl)
  have d__law_people : Df K mg "_law_people" "_law_people" s__law_people ["_law_source_here", "_law_sizes_here", "_law_most"] := df_mk X G a__law_people l__law_people c__law_people k__law_people (fun _ _ _ _ _ _ us hl => match us, hl with | [_, _, _], _ => rfl)
  have d__law_board : Df K mg "_law_board" "_law_board" s__law_board ["_law_day"] := df_mk X G a__law_board l__law_board c__law_board k__law_board (fun _ _ _ _ _ _ us hl => match us, hl with | [_], _ => rfl)
  have d__law_part : Df K mg "_law_part" "_law_part" s__law_part ["_law_day", "_law_lot_here"] := df_mk X G a__law_part l__law_part c__law_part k__law_part (fun _ _ _ _ _ _ us hl => match us, hl with | [_, _], _ => rfl)
  have d__law_tables : Df K mg "_law_tables" "_law_tables" s__law_tables ["_law_days", "_law_lots"] := df_mk X G a__law_tables l__law_tables c__law_tables k__law_tables (fun _ _ _ _ _ _ us hl => match us, hl with | [_, _], _ => rfl)
  have d__law_unseen : Df K mg "_law_unseen" "_law_unseen" s__law_unseen ["_law_day", "_law_tables_here", "_law_lots"] := df_mk X G a__law_unseen l__law_unseen c__law_unseen k__law_unseen (fun _ _ _ _ _ _ us hl => match us, hl with | [_, _, _], _ => rfl)
  have d__law_same : Df K mg "_law_same" "_law_same" s__law_same ["_law_told", "_law_due"] := df_mk X G a__law_same l__law_same c__law_same k__law_same (fun _ _ _ _ _ _ us hl => match us, hl with | [_, _], _ => rfl)
  have d__law_lot : Df K mg "_law_lot" "_law_lot" s__law_lot ["_law_source_here", "_law_many"] := df_mk X G a__law_lot l__law_lot c__law_lot k__law_lot (fun _ _ _ _ _ _ us hl => match us, hl with | [_, _], _ => rfl)
  have d__law_tree : Df K mg "_law_tree" "_law_tree" s__law_tree ["_law_source_here", "_law_many"] := df_mk X G a__law_tree l__law_tree c__law_tree k__law_tree (fun _ _ _ _ _ _ us hl => match us, hl with | [_, _], _ => rfl)
  have d__law_web : Df K mg "_law_web" "_law_web" s__law_web ["_law_source_here", "_law_many"] := df_mk X G a__law_web l__law_web c__law_web k__law_web (fun _ _ _ _ _ _ us hl => match us, hl with | [_, _], _ => rfl)
  have d__law_false_of : Df K mg "_law_false_of" "_law_false_of" s__law_false_of ["_law_parts_here", "_law_many", "_law_lots"] := df_mk X G a__law_false_of l__law_false_of c__law_false_of k__law_false_of (fun _ _ _ _ _ _ us hl => match us, hl with | [_, _, _], _ => rfl)
  refine ⟨PySem.W.fnOf "law" "law" (defArgs s_law) (defBody s_law) (defScope s_law) .none kV_LAW dc_LAW pm_LAW an_LAW cd_LAW ct_LAW, fun s v => .of_eq rfl, fun base _ _ => ?_⟩
  have o_is_integer := ok_is_integer (P := l.prog) (w := w) (base := base) B d_is_integer
  have o_is_within := ok_is_within (P := l.prog) (w := w) (base := base) o_is_integer d_is_within
  have o_is_triple := ok_is_triple (P := l.prog) (w := w) (base := base) B d_is_triple
  have o_are_ascending := ok_are_ascending (P := l.prog) (w := w) (base := base) B d_are_ascending
  have o_is_lot_below := ok_is_lot_below (P := l.prog) (w := w) (base := base) B o_is_within o_are_ascending d_is_lot_below
  have o_check_number := ok_check_number (P := l.prog) (w := w) (base := base) o_is_within d_check_number
  have o_check_people := ok_check_people (P := l.prog) (w := w) (base := base) Cm o_check_number d_check_people
  have o_are_lots := ok_are_lots (P := l.prog) (w := w) (base := base) B o_is_lot_below d_are_lots
  have o_are_sizes := ok_are_sizes (P := l.prog) (w := w) (base := base) B Cm o_is_within o_is_triple d_are_sizes
  have o_is_move := ok_is_move (P := l.prog) (w := w) (base := base) B o_is_within d_is_move
  have o_are_moves := ok_are_moves (P := l.prog) (w := w) (base := base) B Cm o_is_move o_are_ascending d_are_moves
  have o_are_closings := ok_are_closings (P := l.prog) (w := w) (base := base) B o_is_within o_are_ascending d_are_closings
  have O_keep := ok_keep (P := l.prog) (w := w) (base := base) T d_keep
  have O_init := ok_init (P := l.prog) (w := w) (base := base) T B o_are_sizes o_are_moves o_are_closings O_keep d_init
  have o__law_made := ok_made (P := l.prog) (w := w) (base := base) T O_init d__law_made
  have o_board_of := ok_board_of (P := l.prog) (w := w) (base := base) B d_board_of
  have o__law_board := ok_law_board (P := l.prog) (w := w) (base := base) B d__law_board
  have o_part_of := ok_part_of (P := l.prog) (w := w) (base := base) B d_part_of
  have o__law_part := ok_law_part (P := l.prog) (w := w) (base := base) B d__law_part
  have o__law_steps := ok_law_steps (P := l.prog) (w := w) (base := base) B d__law_steps
  have o_all_steps := ok_all_steps (P := l.prog) (w := w) (base := base) T B d_all_steps
  have o_goals_of := ok_goals_of (P := l.prog) (w := w) (base := base) T B d_goals_of
  have o__law_goals := ok_law_goals (P := l.prog) (w := w) (base := base) B d__law_goals
  have o__law_lasts := ok_law_lasts (P := l.prog) (w := w) (base := base) B d__law_lasts
  have o_steps_with := ok_steps_with (P := l.prog) (w := w) (base := base) o_all_steps d_steps_with
  have o_shuts_with := ok_shuts_with (P := l.prog) (w := w) (base := base) T B d_shuts_with
  have o__law_true_days := ok_law_true_days (P := l.prog) (w := w) (base := base) B o__law_steps o__law_goals o__law_lasts d__law_true_days
  have o__law_all_days := ok_law_all_days (P := l.prog) (w := w) (base := base) B o__law_steps d__law_all_days
  have o_alive_layers := ok_alive_layers (P := l.prog) (w := w) (base := base) T B d_alive_layers
  have o_begins_of := ok_begins_of (P := l.prog) (w := w) (base := base) T B o_alive_layers o_all_steps o_goals_of d_begins_of
  have o_days_of := ok_days_of (P := l.prog) (w := w) (base := base) T B o_begins_of o_shuts_with d_days_of
  have o_rows_by_board := ok_rows_by_board (P := l.prog) (w := w) (base := base) B o_board_of d_rows_by_board
  have o_ways_into := ok_ways_into (P := l.prog) (w := w) (base := base) B o_part_of d_ways_into
  have o_like_rows := ok_like_rows (P := l.prog) (w := w) (base := base) B Cm o_ways_into o_steps_with o_part_of d_like_rows
  have o_check_days := ok_check_days (P := l.prog) (w := w) (base := base) B Cm d_check_days
  have o_false_on_board := ok_false_on_board (P := l.prog) (w := w) (base := base) B o_like_rows d_false_on_board
  have o_false_without_lots := ok_false_without_lots (P := l.prog) (w := w) (base := base) T B Cm o_all_steps d_false_without_lots
  have o_least_unseen := ok_least_unseen (P := l.prog) (w := w) (base := base) B Cm o_days_of o_false_without_lots o_rows_by_board o_false_on_board o_check_days d_least_unseen
  have o_web_false := ok_web_false (P := l.prog) (w := w) (base := base) o_check_people o_are_lots o_least_unseen d_web_false
  have o__law_tables := ok_law_tables (P := l.prog) (w := w) (base := base) o__law_board o__law_part d__law_tables
  have o__law_unseen := ok_law_unseen (P := l.prog) (w := w) (base := base) B o__law_board o__law_part d__law_unseen
  have o__law_false_of := ok_law_false_of (P := l.prog) (w := w) (base := base) o__law_true_days o__law_all_days o__law_tables o__law_unseen d__law_false_of
  have o__law_source := ok_law_source (P := l.prog) (w := w) (base := base) B d__law_source
  have o__law_draw := ok_law_draw (P := l.prog) (w := w) (base := base) B d__law_draw
  have o__law_sizes := ok_law_sizes (P := l.prog) (w := w) (base := base) o__law_draw d__law_sizes
  have o__law_sure_rows := ok_law_sure_rows (P := l.prog) (w := w) (base := base) B o__law_draw d__law_sure_rows
  have o__law_doubled := ok_law_doubled (P := l.prog) (w := w) (base := base) B o__law_draw d__law_doubled
  have o__law_parts_of := ok_law_parts_of (P := l.prog) (w := w) (base := base) B d__law_parts_of
  have o__law_sure_parts := ok_law_sure_parts (P := l.prog) (w := w) (base := base) o__law_draw o__law_sizes o__law_sure_rows o__law_doubled o__law_parts_of d__law_sure_parts
  have o__law_loose_parts := ok_law_loose_parts (P := l.prog) (w := w) (base := base) B o__law_draw o__law_sizes o__law_sure_rows o__law_parts_of d__law_loose_parts
  have o__law_parts := ok_law_parts (P := l.prog) (w := w) (base := base) o__law_draw o__law_sure_parts o__law_loose_parts d__law_parts
  have o__law_people := ok_law_people (P := l.prog) (w := w) (base := base) B o__law_draw d__law_people
  have o__law_lot := ok_law_lot (P := l.prog) (w := w) (base := base) B o__law_draw d__law_lot
  have o__law_tree := ok_law_tree (P := l.prog) (w := w) (base := base) B o__law_draw o__law_lot d__law_tree
  have o__law_web := ok_law_web (P := l.prog) (w := w) (base := base) B o__law_draw o__law_lot o__law_tree d__law_web
  have o__law_is_integer := ok_law_is_integer (P := l.prog) (w := w) (base := base) B d__law_is_integer
  have same0 := ok_law_same0 (P := l.prog) (w := w) (base := base) B o__law_is_integer d__law_same
  have same1 := ok_law_sameS (j := 0) (P := l.prog) (w := w) (base := base) B o__law_is_integer same0 d__law_same
  have same2 := ok_law_sameS (j := 1) (P := l.prog) (w := w) (base := base) B o__law_is_integer same1 d__law_same
  have o__law_same := ok_law_sameS (j := 2) (P := l.prog) (w := w) (base := base) B o__law_is_integer same2 d__law_same
  exact ok_law B o__law_source o__law_parts o__law_made o__law_people o__law_web o__law_false_of o__law_same o_web_false o__law_lot F_law
theorem walk {l : PySem.W.OpenLaw} {q : Program} {loose : List Str} {XP : (Str → Option Value) → Heap → Prop} {YP : World → Heap → Prop} {d : DefRec} {K : Params → PySem.W.Frag} (hn : l.most = some 63) (hdf : d.params.defaults = [])
    (hY : ∀ (w : World) (h : Heap), YP w h → (K w.params).In h)
    (F : ∀ (w : World) (mg : Str → Option Value) (fa : Addr) (h : Heap), (K w.params).In h → h.Ns mainGlobals mg → mg d.name = some (.ref fa) →
      ∃ fd : FuncData, (∀ (s : Shared) (u : Value), BindsTo s fd ⟨[u], []⟩ [("_law_script", u)]) ∧ ∀ base : Heap, (K w.params).In base → base.Ns mainGlobals mg → FnOk l.prog w (K w.params) mg base CX0 8 fa fd ["_law_script"] (spLaw (K w.params))) :
    PySem.W.WalkO q loose XP YP l.row.toRowW d [] (fun f vs => PySem.call f vs) :=
  L2.walk_of (n := 63) (k := 8) (x := "_law_script") (CX := fun _ => CX0) (sp := fun w => spLaw (K w.params)) hn (by decide) hdf ⟨rfl, by decide, by decide⟩ hY F (fun _ _ a ns _ _ hS => ⟨a, ns, rfl, hS, fun _ => rfl⟩) fun _ _ _ _ _ z => z
end Fd

open PySem PySem.W PyProof.Rows
set_option maxRecDepth 100000 in
set_option maxHeartbeats 0 in
theorem PySem.Challenge.cw_falsedays_k71_whole_least_false_days_of_holds : PySem.Challenge.rw_falsedays_k71_whole_least_false_days_of.Holds := by
  w_on; o_law; k_head; (case hw => w_witness2)
  k_fill
  refine Fd.walk (l := PySem.Challenge.rw_falsedays_k71_whole_least_false_days_of) rfl rfl (fun w h Y => PySem.W.kIn_of Y) ?F
  case F =>
    intro w mg fa h KX G hmg
    refine' Fd.all_mk KX G hmg ?aC ?a_init ?i_init ?l_init ?c_init ?k_init ?a_keep ?i_keep ?l_keep ?c_keep ?k_keep ?a_is_integer ?l_is_integer ?c_is_integer ?k_is_integer ?a_is_within ?l_is_within ?c_is_within ?k_is_within ?a_is_triple ?l_is_triple ?c_is_triple ?k_is_triple ?a_are_ascending ?l_are_ascending ?c_are_ascending ?k_are_ascending ?a_is_lot_below ?l_is_lot_below ?c_is_lot_below ?k_is_lot_below ?a_check_number ?l_check_number ?c_check_number ?k_check_number ?a_are_sizes ?l_are_sizes ?c_are_sizes ?k_are_sizes ?a_is_move ?l_is_move ?c_is_move ?k_is_move ?a_are_moves ?l_are_moves ?c_are_moves ?k_are_moves ?a_are_closings ?l_are_closings ?c_are_closings ?k_are_closings ?a_board_of ?l_board_of ?c_board_of ?k_board_of ?a_goals_of ?l_goals_of ?c_goals_of ?k_goals_of ?a_shuts_with ?l_shuts_with ?c_shuts_with ?k_shuts_with ?a_all_steps ?l_all_steps ?c_all_steps ?k_all_steps ?a_alive_layers ?l_alive_layers ?c_alive_layers ?k_alive_layers ?a_begins_of ?l_begins_of ?c_begins_of ?k_begins_of ?a_days_of ?l_days_of ?c_days_of ?k_days_of ?a_steps_with ?l_steps_with ?c_steps_with ?k_steps_with ?a_check_people ?l_check_people ?c_check_people ?k_check_people ?a_are_lots ?l_are_lots ?c_are_lots ?k_are_lots ?a_rows_by_board ?l_rows_by_board ?c_rows_by_board ?k_rows_by_board ?a_part_of ?l_part_of ?c_part_of ?k_part_of ?a_ways_into ?l_ways_into ?c_ways_into ?k_ways_into ?a_like_rows ?l_like_rows ?c_like_rows ?k_like_rows ?a_false_on_board ?l_false_on_board ?c_false_on_board ?k_false_on_board ?a_check_days ?l_check_days ?c_check_days ?k_check_days ?a_false_without_lots ?l_false_without_lots ?c_false_without_lots ?k_false_without_lots ?a_least_unseen ?l_least_unseen ?c_least_unseen ?k_least_unseen ?a_web_false ?l_web_false ?c_web_false ?k_web_false ?a__law_is_integer ?l__law_is_integer ?c__law_is_integer ?k__law_is_integer ?a__law_source ?l__law_source ?c__law_source ?k__law_source ?a__law_draw ?l__law_draw ?c__law_draw ?k__law_draw ?a__law_sizes ?l__law_sizes ?c__law_sizes ?k__law_sizes ?a__law_sure_rows ?l__law_sure_rows ?c__law_sure_rows ?k__law_sure_rows ?a__law_doubled ?l__law_doubled ?c__law_doubled ?k__law_doubled ?a__law_parts_of ?l__law_parts_of ?c__law_parts_of ?k__law_parts_of ?a__law_sure_parts ?l__law_sure_parts ?c__law_sure_parts ?k__law_sure_parts ?a__law_loose_parts ?l__law_loose_parts ?c__law_loose_parts ?k__law_loose_parts ?a__law_parts ?l__law_parts ?c__law_parts ?k__law_parts ?a__law_made ?l__law_made ?c__law_made ?k__law_made ?a__law_steps ?l__law_steps ?c__law_steps ?k__law_steps ?a__law_goals ?l__law_goals ?c__law_goals ?k__law_goals ?a__law_lasts ?l__law_lasts ?c__law_lasts ?k__law_lasts ?a__law_true_days ?l__law_true_days ?c__law_true_days ?k__law_true_days ?a__law_all_days ?l__law_all_days ?c__law_all_days ?k__law_all_days ?a__law_people ?l__law_people ?c__law_people ?k__law_people ?a__law_board ?l__law_board ?c__law_board ?k__law_board ?a__law_part ?l__law_part ?c__law_part ?k__law_part ?a__law_tables ?l__law_tables ?c__law_tables ?k__law_tables ?a__law_unseen ?l__law_unseen ?c__law_unseen ?k__law_unseen ?a__law_same ?l__law_same ?c__law_same ?k__law_same ?a__law_lot ?l__law_lot ?c__law_lot ?k__law_lot ?a__law_tree ?l__law_tree ?c__law_tree ?k__law_tree ?a__law_web ?l__law_web ?c__law_web ?k__law_web ?a__law_false_of ?l__law_false_of ?c__law_false_of ?k__law_false_of ?a_LAW ?l_LAW ?c_LAW ?k_LAW ?z_len ?z_range ?z_isinstance ?z_int ?z_bool ?z_str ?z_tuple ?z_list ?z_set ?z_sorted ?z_enumerate ?z_zip ?z_any ?z_all ?z_min ?z_max ?v_MOST_SIZE ?v_MOST_STANDINGS ?v_MOST_PEOPLE ?v_MOST_DAYS ?pg ?hd ?po ?sa ?mk ?kc ?nS ?nM ?nC ?nK
    (case aC => k_is)
    (case a_init => k_is)
    (case i_init => k_is)
    (case l_init => k_is)
    (case c_init => k_is)
    (case k_init => k_is)
    (case a_keep => k_is)
    (case i_keep => k_is)
    (case l_keep => k_is)
    (case c_keep => k_is)
    (case k_keep => k_is)
    (case a_is_integer => k_is)
    (case l_is_integer => k_is)
    (case c_is_integer => k_is)
    (case k_is_integer => k_is)
    (case a_is_within => k_is)
    (case l_is_within => k_is)
    (case c_is_within => k_is)
    (case k_is_within => k_is)
    (case a_is_triple => k_is)
    (case l_is_triple => k_is)
    (case c_is_triple => k_is)
    (case k_is_triple => k_is)
    (case a_are_ascending => k_is)
    (case l_are_ascending => k_is)
    (case c_are_ascending => k_is)
    (case k_are_ascending => k_is)
    (case a_is_lot_below => k_is)
    (case l_is_lot_below => k_is)
    (case c_is_lot_below => k_is)
    (case k_is_lot_below => k_is)
    (case a_check_number => k_is)
    (case l_check_number => k_is)
    (case c_check_number => k_is)
    (case k_check_number => k_is)
    (case a_are_sizes => k_is)
    (case l_are_sizes => k_is)
    (case c_are_sizes => k_is)
    (case k_are_sizes => k_is)
    (case a_is_move => k_is)
    (case l_is_move => k_is)
    (case c_is_move => k_is)
    (case k_is_move => k_is)
    (case a_are_moves => k_is)
    (case l_are_moves => k_is)
    (case c_are_moves => k_is)
    (case k_are_moves => k_is)
    (case a_are_closings => k_is)
    (case l_are_closings => k_is)
    (case c_are_closings => k_is)
    (case k_are_closings => k_is)
    (case a_board_of => k_is)
    (case l_board_of => k_is)
    (case c_board_of => k_is)
    (case k_board_of => k_is)
    (case a_goals_of => k_is)
    (case l_goals_of => k_is)
    (case c_goals_of => k_is)
    (case k_goals_of => k_is)
    (case a_shuts_with => k_is)
    (case l_shuts_with => k_is)
    (case c_shuts_with => k_is)
    (case k_shuts_with => k_is)
    (case a_all_steps => k_is)
    (case l_all_steps => k_is)
    (case c_all_steps => k_is)
    (case k_all_steps => k_is)
    (case a_alive_layers => k_is)
    (case l_alive_layers => k_is)
    (case c_alive_layers => k_is)
    (case k_alive_layers => k_is)
    (case a_begins_of => k_is)
    (case l_begins_of => k_is)
    (case c_begins_of => k_is)
    (case k_begins_of => k_is)
    (case a_days_of => k_is)
    (case l_days_of => k_is)
    (case c_days_of => k_is)
    (case k_days_of => k_is)
    (case a_steps_with => k_is)
    (case l_steps_with => k_is)
    (case c_steps_with => k_is)
    (case k_steps_with => k_is)
    (case a_check_people => k_is)
    (case l_check_people => k_is)
    (case c_check_people => k_is)
    (case k_check_people => k_is)
    (case a_are_lots => k_is)
    (case l_are_lots => k_is)
    (case c_are_lots => k_is)
    (case k_are_lots => k_is)
    (case a_rows_by_board => k_is)
    (case l_rows_by_board => k_is)
    (case c_rows_by_board => k_is)
    (case k_rows_by_board => k_is)
    (case a_part_of => k_is)
    (case l_part_of => k_is)
    (case c_part_of => k_is)
    (case k_part_of => k_is)
    (case a_ways_into => k_is)
    (case l_ways_into => k_is)
    (case c_ways_into => k_is)
    (case k_ways_into => k_is)
    (case a_like_rows => k_is)
    (case l_like_rows => k_is)
    (case c_like_rows => k_is)
    (case k_like_rows => k_is)
    (case a_false_on_board => k_is)
    (case l_false_on_board => k_is)
    (case c_false_on_board => k_is)
    (case k_false_on_board => k_is)
    (case a_check_days => k_is)
    (case l_check_days => k_is)
    (case c_check_days => k_is)
    (case k_check_days => k_is)
    (case a_false_without_lots => k_is)
    (case l_false_without_lots => k_is)
    (case c_false_without_lots => k_is)
    (case k_false_without_lots => k_is)
    (case a_least_unseen => k_is)
    (case l_least_unseen => k_is)
    (case c_least_unseen => k_is)
    (case k_least_unseen => k_is)
    (case a_web_false => k_is)
    (case l_web_false => k_is)
    (case c_web_false => k_is)
    (case k_web_false => k_is)
    (case a__law_is_integer => k_is)
    (case l__law_is_integer => k_is)
    (case c__law_is_integer => k_is)
    (case k__law_is_integer => k_is)
    (case a__law_source => k_is)
    (case l__law_source => k_is)
    (case c__law_source => k_is)
    (case k__law_source => k_is)
    (case a__law_draw => k_is)
    (case l__law_draw => k_is)
    (case c__law_draw => k_is)
    (case k__law_draw => k_is)
    (case a__law_sizes => k_is)
    (case l__law_sizes => k_is)
    (case c__law_sizes => k_is)
    (case k__law_sizes => k_is)
    (case a__law_sure_rows => k_is)
    (case l__law_sure_rows => k_is)
    (case c__law_sure_rows => k_is)
    (case k__law_sure_rows => k_is)
    (case a__law_doubled => k_is)
    (case l__law_doubled => k_is)
    (case c__law_doubled => k_is)
    (case k__law_doubled => k_is)
    (case a__law_parts_of => k_is)
    (case l__law_parts_of => k_is)
    (case c__law_parts_of => k_is)
    (case k__law_parts_of => k_is)
    (case a__law_sure_parts => k_is)
    (case l__law_sure_parts => k_is)
    (case c__law_sure_parts => k_is)
    (case k__law_sure_parts => k_is)
    (case a__law_loose_parts => k_is)
    (case l__law_loose_parts => k_is)
    (case c__law_loose_parts => k_is)
    (case k__law_loose_parts => k_is)
    (case a__law_parts => k_is)
    (case l__law_parts => k_is)
    (case c__law_parts => k_is)
    (case k__law_parts => k_is)
    (case a__law_made => k_is)
    (case l__law_made => k_is)
    (case c__law_made => k_is)
    (case k__law_made => k_is)
    (case a__law_steps => k_is)
    (case l__law_steps => k_is)
    (case c__law_steps => k_is)
    (case k__law_steps => k_is)
    (case a__law_goals => k_is)
    (case l__law_goals => k_is)
    (case c__law_goals => k_is)
    (case k__law_goals => k_is)
    (case a__law_lasts => k_is)
    (case l__law_lasts => k_is)
    (case c__law_lasts => k_is)
    (case k__law_lasts => k_is)
    (case a__law_true_days => k_is)
    (case l__law_true_days => k_is)
    (case c__law_true_days => k_is)
    (case k__law_true_days => k_is)
    (case a__law_all_days => k_is)
    (case l__law_all_days => k_is)
    (case c__law_all_days => k_is)
    (case k__law_all_days => k_is)
    (case a__law_people => k_is)
    (case l__law_people => k_is)
    (case c__law_people => k_is)
    (case k__law_people => k_is)
    (case a__law_board => k_is)
    (case l__law_board => k_is)
    (case c__law_board => k_is)
    (case k__law_board => k_is)
    (case a__law_part => k_is)
    (case l__law_part => k_is)
    (case c__law_part => k_is)
    (case k__law_part => k_is)
    (case a__law_tables => k_is)
    (case l__law_tables => k_is)
    (case c__law_tables => k_is)
    (case k__law_tables => k_is)
    (case a__law_unseen => k_is)
    (case l__law_unseen => k_is)
    (case c__law_unseen => k_is)
    (case k__law_unseen => k_is)
    (case a__law_same => k_is)
    (case l__law_same => k_is)
    (case c__law_same => k_is)
    (case k__law_same => k_is)
    (case a__law_lot => k_is)
    (case l__law_lot => k_is)
    (case c__law_lot => k_is)
    (case k__law_lot => k_is)
    (case a__law_tree => k_is)
    (case l__law_tree => k_is)
    (case c__law_tree => k_is)
    (case k__law_tree => k_is)
    (case a__law_web => k_is)
    (case l__law_web => k_is)
    (case c__law_web => k_is)
    (case k__law_web => k_is)
    (case a__law_false_of => k_is)
    (case l__law_false_of => k_is)
    (case c__law_false_of => k_is)
    (case k__law_false_of => k_is)
    (case a_LAW => k_is)
    (case l_LAW => k_is)
    (case c_LAW => k_is)
    (case k_LAW => k_is)
    (case z_len => k_is)
    (case z_range => k_is)
    (case z_isinstance => k_is)
    (case z_int => k_is)
    (case z_bool => k_is)
    (case z_str => k_is)
    (case z_tuple => k_is)
    (case z_list => k_is)
    (case z_set => k_is)
    (case z_sorted => k_is)
    (case z_enumerate => k_is)
    (case z_zip => k_is)
    (case z_any => k_is)
    (case z_all => k_is)
    (case z_min => k_is)
    (case z_max => k_is)
    (case v_MOST_SIZE => k_is)
    (case v_MOST_STANDINGS => k_is)
    (case v_MOST_PEOPLE => k_is)
    (case v_MOST_DAYS => k_is)
    (case pg => k_is)
    (case hd => k_is)
    (case po => k_is)
    (case sa => k_is)
    (case mk => k_is)
    (case kc => k_is)
    (case nS => k_is)
    (case nM => k_is)
    (case nC => k_is)
    (case nK => k_is)
