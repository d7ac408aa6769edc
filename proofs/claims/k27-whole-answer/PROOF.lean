import PyProof.Rows.All
import HandS.ForMost
import HandS.Deep
import HandS.Conv
import KE.KDictKeyed
import KE.KDictCopyH
import PyProof.ReprRoads
import HandS.SetFor
import KE.KDictPairs
import PyProof.Rows.SeqRoads
import KE.GoesEnum
import KE.SortKeyHeap
import HandS.More
import HandS.SortKw
import HandS.Codes
import HandS.TupSets
import HandS.Ends
import HandS.Defaults
import HandS.HeadHook1
import HandS.HeadHook2
import PySem.Challenge.RW_cardsback_k27_whole_answer_or_due
import KE.KStateDown
import HandS.Head0
import HandS.Head1
import HandS.Head2
import HandS.HeadEnd
import HandS.Evl
import HandS.TupAny
import HandS.TupLe
import HandS.Nested
import PySem.Str
import HandS.SetKeys
import KE.SortLaws
import PyProof.ReprBulk
import PyProof.FitsInt
import HandS.Style
/-! CBLib1 -/
set_option Elab.async false
set_option autoImplicit false
set_option linter.all false
set_option maxRecDepth 100000
set_option maxHeartbeats 2000000
/-! Data that never change (numbers, texts, None, tuples of these) on the abstract heap, and dicts keyed by them. -/
namespace CB
open PySem PySem.Spec PyProof.Rows L2

mutual
/-- on H the value is this datum -/
inductive KAt (H : Hp) : V → NestedKey → Prop
  | none : KAt H .non .none
  | num (i : Int) : KAt H (.int i) (.num i)
  | text (x : Str) : KAt H (.str x) (.text x)
  | tup {a : Addr} {xs : List V} {ks : List NestedKey} : H a = some (.tup xs) → KAll H xs ks → KAt H (.ref a) (.tup ks)
inductive KAll (H : Hp) : List V → List NestedKey → Prop
  | nil : KAll H [] []
  | cons {x : V} {k : NestedKey} {xs : List V} {ks : List NestedKey} : KAt H x k → KAll H xs ks → KAll H (x :: xs) (k :: ks)
end
/-- tuples stay -/
def TupLe (H H' : Hp) : Prop := ∀ b ys, H b = some (.tup ys) → H' b = some (.tup ys)
theorem TupLe.refl (H : Hp) : TupLe H H := fun _ _ e => e
theorem TupLe.trans {H H1 H2 : Hp} (a : TupLe H H1) (b : TupLe H1 H2) : TupLe H H2 := fun c o h => b c o (a c o h)
theorem TupLe.of_same {H H' : Hp} (e : Same H H') : TupLe H H' := fun b ys h => e b _ h
theorem TupLe.upd_new {H : Hp} {p : Addr} {o : HO} (h : H p = none) : TupLe H (upd H p o) := fun b ys e => by
  rw [upd_ne (ne_of_none e h)]; exact e
mutual
theorem KAt.keep {H H' : Hp} (ht : TupLe H H') : ∀ (k : NestedKey) (v : V), KAt H v k → KAt H' v k
  | .none, _, h => by cases h; exact .none
  | .num i, _, h => by cases h; exact .num i
  | .text x, _, h => by cases h; exact .text x
  | .tup ks, _, h => by
    cases h with
    | tup h1 h2 => exact .tup (ht _ _ h1) (KAll.keep ht ks _ h2)
theorem KAll.keep {H H' : Hp} (ht : TupLe H H') : ∀ (ks : List NestedKey) (vs : List V), KAll H vs ks → KAll H' vs ks
  | [], _, h => by cases h; exact .nil
  | k :: ks, _, h => by
    cases h with
    | cons h1 h2 => exact .cons (KAt.keep ht k _ h1) (KAll.keep ht ks _ h2)
end
theorem KAt.mono {H H' : Hp} {k : NestedKey} {v : V} (h : KAt H v k) (e : Same H H') : KAt H' v k := KAt.keep (.of_same e) k v h
theorem KAll.mono {H H' : Hp} {k : List NestedKey} {v : List V} (h : KAll H v k) (e : Same H H') : KAll H' v k := KAll.keep (.of_same e) k v h
mutual
theorem KAt.inj {H : Hp} : ∀ (a b : NestedKey) (v : V), KAt H v a → KAt H v b → a = b
  | .none, _, _, h, h' => by cases h; cases h'; rfl
  | .num i, _, _, h, h' => by cases h; cases h'; rfl
  | .text x, _, _, h, h' => by cases h; cases h'; rfl
  | .tup ks, _, _, h, h' => by
    cases h with
    | tup h1 h2 =>
      cases h' with
      | tup k1 k2 =>
        rw [h1] at k1; cases k1
        rw [KAll.inj ks _ _ h2 k2]
theorem KAll.inj {H : Hp} : ∀ (a b : List NestedKey) (v : List V), KAll H v a → KAll H v b → a = b
  | [], _, _, h, h' => by cases h; cases h'; rfl
  | a :: as, _, _, h, h' => by
    cases h with
    | cons h1 h2 =>
      cases h' with
      | cons k1 k2 => rw [KAt.inj a _ _ h1 k1, KAll.inj as _ _ h2 k2]
end
theorem KAll.length {H : Hp} {vs : List V} {ks : List NestedKey} (h : KAll H vs ks) : vs.length = ks.length := by
  induction ks generalizing vs with
  | nil => cases h; rfl
  | cons k ks ih =>
    cases h with
    | cons _ h2 => rw [List.length_cons, List.length_cons, ih h2]
theorem KAll.get {H : Hp} : ∀ {vs : List V} {ks : List NestedKey} {i : Nat} {k : NestedKey}, KAll H vs ks → ks[i]? = some k → ∃ v, vs[i]? = some v ∧ KAt H v k
  | _, _, _, _, .nil, e => by simp at e
  | _, _, 0, _, .cons h _, e => by simp at e; subst e; exact ⟨_, rfl, h⟩
  | _, _, i + 1, _, .cons _ h, e => by
    obtain ⟨v, h1, h2⟩ := KAll.get (i := i) h (by simpa using e)
    exact ⟨v, by simpa using h1, h2⟩
theorem KAll.getV {H : Hp} : ∀ {vs : List V} {ks : List NestedKey} {i : Nat} {v : V}, KAll H vs ks → vs[i]? = some v → ∃ k, ks[i]? = some k ∧ KAt H v k
  | _, _, _, _, .nil, e => by simp at e
  | _, _, 0, _, .cons h _, e => by simp at e; subst e; exact ⟨_, rfl, h⟩
  | _, _, i + 1, _, .cons _ h, e => by
    obtain ⟨v, h1, h2⟩ := KAll.getV (i := i) h (by simpa using e)
    exact ⟨v, by simpa using h1, h2⟩
theorem KAll.append {H : Hp} : ∀ {vs ws : List V} {ks ls : List NestedKey}, KAll H vs ks → KAll H ws ls → KAll H (vs ++ ws) (ks ++ ls)
  | _, _, _, _, .nil, h => h
  | _, _, _, _, .cons a b, h => .cons a (KAll.append b h)
theorem KAll.drop {H : Hp} : ∀ (n : Nat) {vs : List V} {ks : List NestedKey}, KAll H vs ks → KAll H (vs.drop n) (ks.drop n)
  | 0, _, _, h => h
  | _ + 1, _, _, .nil => .nil
  | n + 1, _, _, .cons _ h => KAll.drop n h
theorem KAll.take {H : Hp} : ∀ (n : Nat) {vs : List V} {ks : List NestedKey}, KAll H vs ks → KAll H (vs.take n) (ks.take n)
  | 0, _, _, _ => .nil
  | _ + 1, _, _, .nil => .nil
  | n + 1, _, _, .cons a h => .cons a (KAll.take n h)

section
variable {X : Cx} {pins : List (Addr × Obj)} {σ : L2.St} {H : Hp} {s : Shared}
mutual
theorem KAt.is (I : Inv X pins σ H s) : ∀ (k : NestedKey) (v : V) (u : Value), KAt H v k → RelV v u → NestedIs s.heap k u
  | .none, _, _, h, r => by cases h; cases r; exact .none
  | .num i, _, _, h, r => by cases h; obtain ⟨t, rfl⟩ := r; exact .int i t
  | .text x, _, _, h, r => by cases h; obtain ⟨t, rfl⟩ := r; exact .text x t
  | .tup ks, _, _, h, r => by
    cases h with
    | tup h1 h2 =>
      cases r
      obtain ⟨_, its, rv, ⟨o, ho, hc, n, hd⟩⟩ := (show ObjOk X.prog X.w H s.heap _ (.tup _) from I.hok _ _ h1)
      exact .tup ho hc hd (by simpa using KAll.is I ks _ its h2 rv)
theorem KAll.is (I : Inv X pins σ H s) : ∀ (ks : List NestedKey) (vs : List V) (us : List Value), KAll H vs ks → Vals vs us → NestedAll s.heap ks us
  | [], _, _, h, r => by cases h; cases r; exact .nil
  | k :: ks, _, _, h, r => by
    cases h with
    | cons h1 h2 =>
      cases r with
      | cons r1 r2 => exact .cons (KAt.is I k _ _ h1 r1) (KAll.is I ks _ _ h2 r2)
end
mutual
theorem KAt.dp {K : PySem.W.Frag} : ∀ (k : NestedKey) (v : V), KAt H v k → Dp K H v k.data
  | .none, _, h => by cases h; exact .non
  | .num i, _, h => by cases h; exact .int i
  | .text x, _, h => by cases h; exact .str x
  | .tup ks, _, h => by
    cases h with
    | tup h1 h2 => exact .tup (SqT.of h1) (KAll.dp ks _ h2)
theorem KAll.dp {K : PySem.W.Frag} : ∀ (ks : List NestedKey) (vs : List V), KAll H vs ks → DpAll K H vs (NestedKey.datas ks)
  | [], _, h => by cases h; exact .nil
  | k :: ks, _, h => by
    cases h with
    | cons h1 h2 => exact .cons (KAt.dp k _ h1) (KAll.dp ks _ h2)
end
end

mutual
theorem eqv_data : ∀ a b : NestedKey, PyData.eqv a.data b.data = NestedKey.beq a b
  | .none, b => by cases b <;> simp [NestedKey.data, PyData.eqv, NestedKey.beq]
  | .num i, b => by cases b <;> simp [NestedKey.data, PyData.eqv, NestedKey.beq, BEq.beq]
  | .text x, b => by cases b <;> simp [NestedKey.data, PyData.eqv, NestedKey.beq, BEq.beq]
  | .tup ks, b => by
    cases b with
    | tup ls => simp only [NestedKey.data, PyData.eqv, NestedKey.beq]; exact eqv_datas ks ls
    | _ => simp [NestedKey.data, PyData.eqv, NestedKey.beq]
theorem eqv_datas : ∀ a b : List NestedKey, PyData.eqvAll (NestedKey.datas a) (NestedKey.datas b) = NestedKey.beqAll a b
  | [], [] => by simp [NestedKey.datas, PyData.eqvAll, NestedKey.beqAll]
  | [], _ :: _ => by simp [NestedKey.datas, PyData.eqvAll, NestedKey.beqAll]
  | _ :: _, [] => by simp [NestedKey.datas, PyData.eqvAll, NestedKey.beqAll]
  | a :: as, b :: bs => by simp only [NestedKey.datas, PyData.eqvAll, NestedKey.beqAll]; rw [eqv_data a b, eqv_datas as bs]
end
theorem eqv_decide (a b : NestedKey) : PyData.eqv a.data b.data = decide (a = b) := by rw [eqv_data, NestedKey.decide_eq]
end CB
/-! CBLib2 -/
set_option Elab.async false
set_option autoImplicit false
set_option linter.all false
set_option maxRecDepth 100000
set_option maxHeartbeats 2000000
/-! Operators and built-in calls upon such data. -/
namespace CB
open PySem PySem.Spec PyProof.Rows L2

theorem decideAll (ks ls : List NestedKey) : decide (ks = ls) = NestedKey.beqAll ks ls := by
  have h := NestedKey.decide_eq (.tup ks) (.tup ls)
  have e : NestedKey.beq (.tup ks) (.tup ls) = NestedKey.beqAll ks ls := by simp [NestedKey.beq]
  rw [e] at h
  rw [← h]
  exact decide_eq_decide.mpr ⟨fun z => by rw [z], fun z => by injection z⟩
theorem KAt.tupRef {H : Hp} {x : V} {ks : List NestedKey} (h : KAt H x (.tup ks)) : ∃ a xs, x = .ref a ∧ H a = some (.tup xs) ∧ KAll H xs ks := by
  cases h with
  | tup h1 h2 => exact ⟨_, _, rfl, h1, h2⟩
theorem depth_le_all : ∀ {ks : List NestedKey} {k : NestedKey}, k ∈ ks → k.depth ≤ NestedKey.depthAll ks
  | [], _, h => by cases h
  | a :: ks, k, h => by
    simp only [NestedKey.depthAll]
    rcases List.mem_cons.mp h with h | h
    · subst h; exact Nat.le_max_left _ _
    · exact Nat.le_trans (depth_le_all h) (Nat.le_max_right _ _)
theorem depthAll_le {ks : List NestedKey} {n : Nat} (h : ∀ k ∈ ks, k.depth ≤ n) : NestedKey.depthAll ks ≤ n := by
  induction ks with
  | nil => exact Nat.zero_le _
  | cons a ks ih =>
    simp only [NestedKey.depthAll]
    exact Nat.max_le.mpr ⟨h a List.mem_cons_self, ih fun k hk => h k (List.mem_cons_of_mem _ hk)⟩

section
variable {X : Cx}
/-! ### == and != of two tuples -/
def rEqN : R2 := fun x y H Q => ∃ ks ls, KAt H x (.tup ks) ∧ KAt H y (.tup ls) ∧ NestedKey.depthAll ks ≤ 30 ∧ Q (.bl (decide (ks = ls))) H
def rNeN : R2 := fun x y H Q => ∃ ks ls, KAt H x (.tup ks) ∧ KAt H y (.tup ls) ∧ NestedKey.depthAll ks ≤ 30 ∧ Q (.bl (!decide (ks = ls))) H
theorem items_two {pins : List (Addr × Obj)} {σ : L2.St} {H : Hp} {s : Shared} {a b : Addr} {ks ls : List NestedKey} (hu : X.A.units + 64 < cLine) (I : Inv X pins σ H s) (h1 : KAt H (.ref a) (.tup ks)) (h2 : KAt H (.ref b) (.tup ls)) (hd : NestedKey.depthAll ks ≤ 30) :
    ∃ vs ws, s.heap.IsTuple a vs ∧ s.heap.IsTuple b ws ∧ (∀ j (j1 : j < vs.size) (j2 : j < ws.size), SeqAt.EqAt X.A.in1 s vs[j] ws[j] (keyEqAt ks ls j)) ∧
      ((List.range (min vs.size ws.size)).all (keyEqAt ks ls) && vs.size == ws.size) = decide (ks = ls) := by
  have r1 := KAt.is I _ _ (.ref a) h1 rfl
  have r2 := KAt.is I _ _ (.ref b) h2 rfl
  cases r1 with
  | @tup _ o vs n _ g1 g2 g3 g4 =>
    cases r2 with
    | @tup _ o' ws m _ f1 f2 f3 f4 =>
      have n1 : vs.size = ks.length := by simpa using NestedAll.length _ _ g4
      have n2 : ws.size = ls.length := by simpa using NestedAll.length _ _ f4
      refine ⟨vs, ws, ⟨_, g1, g2, _, g3⟩, ⟨_, f1, f2, _, f3⟩, fun j j1 j2 => ?_, ?_⟩
      · have hroom : X.A.in1.units + min (NestedKey.depthAll ks) (NestedKey.depthAll ls) < cLine := by
          show X.A.units + 1 + _ < _
          have := Nat.min_le_left (NestedKey.depthAll ks) (NestedKey.depthAll ls)
          omega
        have := eqAt_keys ks ls X.A.in1 s vs.toList ws.toList g4 f4 hroom j (by simpa using j1) (by simpa using j2)
        simpa using this
      · rw [decideAll, ← beqAll_eq ks ls, ← n1, ← n2]
theorem op_eqN (hu : X.A.units + 64 < cLine) : OpR X (compareOp .Eq) rEqN := by
  intro pins s σ H x y v u Q I rx ry h
  obtain ⟨ks, ls, h1, h2, hd, q⟩ := h
  obtain ⟨a, _, rfl, _⟩ := h1.tupRef
  obtain ⟨b, _, rfl, _⟩ := h2.tupRef
  cases rx; cases ry
  obtain ⟨vs, ws, t1, t2, e, eq⟩ := items_two hu I h1 h2 hd
  refine SeqAt.RcAt.tuples t1 t2 (by omega) e X.prog X.w _ _ ?_
  rw [eq]
  exact ⟨.bl _, H, I, rfl, q⟩
theorem op_neN (hu : X.A.units + 64 < cLine) : OpR X (compareOp .NotEq) rNeN := by
  intro pins s σ H x y v u Q I rx ry h
  obtain ⟨ks, ls, h1, h2, hd, q⟩ := h
  obtain ⟨a, _, rfl, _⟩ := h1.tupRef
  obtain ⟨b, _, rfl, _⟩ := h2.tupRef
  cases rx; cases ry
  obtain ⟨vs, ws, t1, t2, e, eq⟩ := items_two hu I h1 h2 hd
  refine SeqAt.RcNeAt.tuples t1 t2 (by omega) e X.prog X.w _ _ ?_
  rw [eq]
  exact ⟨.bl _, H, I, rfl, q⟩

/-! ### == and != of a list and a new empty one -/
def rEqNil (K : PySem.W.Frag) (neg : Bool) : R2 := fun x y H Q => ∃ (p q : Addr) (xs : List V), x = .ref p ∧ y = .ref q ∧ SqL K H p xs ∧ SqL K H q [] ∧ Q (.bl (if neg then !xs.isEmpty else xs.isEmpty)) H
theorem nil_items {its : List Value} (r : Vals [] its) : its = [] := by cases r; rfl
theorem op_eqNil (hu : X.A.units + 64 < cLine) : OpR X (compareOp .Eq) (rEqNil X.K false) := by
  intro pins s σ H x y v u Q I rx ry h
  obtain ⟨p, q, xs, rfl, rfl, h1, h2, k⟩ := h
  cases rx; cases ry
  obtain ⟨its, r1, l1, _⟩ := I.list h1
  obtain ⟨its2, r2, l2, _⟩ := I.list h2
  have e2 := nil_items r2
  subst e2
  cases xs with
  | nil =>
    have e1 := nil_items r1
    subst e1
    exact SeqAt.eq_listAt (e := fun _ => true) l1.isList l2.isList rfl (by omega) (fun j j1 _ => absurd j1 (by simp)) ⟨.bl true, H, I, rfl, k⟩
  | cons x xs =>
    cases r1 with
    | cons ra rb => exact SeqAt.eq_list_lengthsAt l1.isList l2.isList (by simp) (by omega) ⟨.bl false, H, I, rfl, k⟩
theorem op_neNil (hu : X.A.units + 64 < cLine) : OpR X (compareOp .NotEq) (rEqNil X.K true) := by
  intro pins s σ H x y v u Q I rx ry h
  obtain ⟨p, q, xs, rfl, rfl, h1, h2, k⟩ := h
  cases rx; cases ry
  obtain ⟨its, r1, l1, _⟩ := I.list h1
  obtain ⟨its2, r2, l2, _⟩ := I.list h2
  have e2 := nil_items r2
  subst e2
  cases xs with
  | nil =>
    have e1 := nil_items r1
    subst e1
    exact SeqAt.RcNeAt.lists (e := fun _ => true) l1.isList l2.isList rfl (by omega) (fun j j1 _ => absurd j1 (by simp)) X.prog X.w _ _ ⟨.bl false, H, I, rfl, k⟩
  | cons x xs =>
    cases r1 with
    | cons ra rb => exact SeqAt.RcNeAt.lists_lengths l1.isList l2.isList (by simp) (by omega) X.prog X.w _ _ ⟨.bl true, H, I, rfl, k⟩

/-! ### in, not in, count -/
open Classical in
noncomputable def isKey (h : Heap) (k : NestedKey) (v : Value) : Bool := decide (NestedIs h k v)
theorem isKey_eq {h : Heap} {k k' : NestedKey} {v : Value} (r : NestedIs h k' v) : isKey h k v = decide (k' = k) := by
  unfold isKey
  by_cases e : k' = k
  · subst e; simp [r]
  · have n : ¬ NestedIs h k v := fun z => e (NestedIs.inj _ _ _ r z)
    simp [n, e]
theorem any_isKey {h : Heap} {k : NestedKey} : ∀ {ks : List NestedKey} {vs : List Value}, NestedAll h ks vs → vs.any (isKey h k) = decide (k ∈ ks)
  | [], _, r => by cases r; simp
  | a :: ks, _, r => by
    cases r with
    | cons r1 r2 =>
      rw [List.any_cons, isKey_eq r1, any_isKey r2]
      by_cases e : a = k
      · simp [e]
      · have e' : ¬ k = a := fun z => e z.symm
        simp [e, e']
theorem count_isKey {h : Heap} {k : NestedKey} : ∀ {ks : List NestedKey} {vs : List Value}, NestedAll h ks vs → vs.countP (isKey h k) = ks.countP fun a => decide (a = k)
  | [], _, r => by cases r; simp
  | a :: ks, _, r => by
    cases r with
    | cons r1 r2 => rw [List.countP_cons, List.countP_cons, isKey_eq r1, count_isKey r2]
theorem item_eqAt {h : Heap} {A : Around} {s : Shared} {k : NestedKey} {u : Value} (hs : s.heap = h) (hk : NestedIs h k u) : ∀ {ks : List NestedKey} {vs : List Value}, NestedAll h ks vs → A.units + NestedKey.depthAll ks < cLine → ∀ y, y ∈ vs → SeqAt.EqAt A s y u (isKey h k y)
  | [], _, r, _, y, hy => by cases r; cases hy
  | a :: ks, _, r, hu, y, hy => by
    cases r with
    | cons r1 r2 =>
      simp only [NestedKey.depthAll] at hu
      have m1 := Nat.le_max_left a.depth (NestedKey.depthAll ks)
      have m2 := Nat.le_max_right a.depth (NestedKey.depthAll ks)
      rcases List.mem_cons.mp hy with e | hy
      · subst e
        rw [isKey_eq r1, NestedKey.decide_eq]
        subst hs
        have := Nat.min_le_left a.depth k.depth
        exact eqAt_key a k A s y u r1 hk (by omega)
      · exact item_eqAt hs hk r2 (by omega) y hy
def rInN (K : PySem.W.Frag) (neg : Bool) : R2 := fun x y H Q => ∃ (p : Addr) (xs : List V) (k : NestedKey) (ks : List NestedKey), y = .ref p ∧ (SqL K H p xs ∨ SqT K H p xs) ∧ KAll H xs ks ∧ KAt H x k ∧ NestedKey.depthAll ks ≤ 30 ∧
  Q (.bl (if neg then !decide (k ∈ ks) else decide (k ∈ ks))) H
theorem op_inN (hu : X.A.units + 64 < cLine) : OpR X (compareOp .In) (rInN X.K false) := by
  intro pins s σ H x y v u Q I rx ry h
  obtain ⟨p, xs, k, ks, rfl, hp, h1, h2, hd, q⟩ := h
  cases ry
  have rk := KAt.is I _ _ _ h2 rx
  rcases hp with hp | hp
  · obtain ⟨its, r1, l1, _⟩ := I.list hp
    have ra := KAll.is I _ _ _ h1 r1
    refine SeqAt.in_listAt (isKey s.heap k) l1.isList (fun y hy => item_eqAt rfl rk ra (by show X.A.units + 1 + _ < _; omega) y (by simpa using hy)) ?_
    rw [List.any_toArray, any_isKey ra]
    exact ⟨.bl _, H, I, rfl, q⟩
  · obtain ⟨its, r1, l1, _⟩ := I.tuple hp
    have ra := KAll.is I _ _ _ h1 r1
    refine SeqAt.in_tupleAt (isKey s.heap k) (show s.heap.IsTuple p its.toArray from l1) (fun y hy => item_eqAt rfl rk ra (by show X.A.units + 1 + _ < _; omega) y (by simpa using hy)) ?_
    rw [List.any_toArray, any_isKey ra]
    exact ⟨.bl _, H, I, rfl, q⟩
theorem op_notInN (hu : X.A.units + 64 < cLine) : OpR X (compareOp .NotIn) (rInN X.K true) := by
  intro pins s σ H x y v u Q I rx ry h
  obtain ⟨p, xs, k, ks, rfl, hp, h1, h2, hd, q⟩ := h
  cases ry
  have rk := KAt.is I _ _ _ h2 rx
  rcases hp with hp | hp
  · obtain ⟨its, r1, l1, _⟩ := I.list hp
    have ra := KAll.is I _ _ _ h1 r1
    refine SeqAt.notIn_listAt (isKey s.heap k) l1.isList (fun y hy => item_eqAt rfl rk ra (by show X.A.units + 1 + _ < _; omega) y (by simpa using hy)) ?_
    rw [List.any_toArray, any_isKey ra]
    exact ⟨.bl _, H, I, rfl, q⟩
  · obtain ⟨its, r1, l1, _⟩ := I.tuple hp
    have ra := KAll.is I _ _ _ h1 r1
    refine SeqAt.notIn_tupleAt (isKey s.heap k) (show s.heap.IsTuple p its.toArray from l1) (fun y hy => item_eqAt rfl rk ra (by show X.A.units + 1 + _ < _; omega) y (by simpa using hy)) ?_
    rw [List.any_toArray, any_isKey ra]
    exact ⟨.bl _, H, I, rfl, q⟩
def rCntN (K : PySem.W.Frag) : V → List V → Hp → VK → Prop := fun x vs H Q => ∃ (p : Addr) (y : V) (xs : List V) (k : NestedKey) (ks : List NestedKey), x = .ref p ∧ vs = [y] ∧ SqL K H p xs ∧ KAll H xs ks ∧ KAt H y k ∧ NestedKey.depthAll ks ≤ 30 ∧
  Q (.int ((ks.countP fun a => decide (a = k)) : Nat)) H
theorem mt_countN (hu : X.A.units + 64 < cLine) : MtR X "list.count" (rCntN X.K) := by
  intro pins s σ H x vs v us Q I rx rv h
  obtain ⟨p, y, xs, k, ks, rfl, rfl, hp, h1, h2, hd, q⟩ := h
  cases rx
  obtain ⟨u, rfl, ru⟩ := rv.one
  have rk := KAt.is I _ _ _ h2 ru
  obtain ⟨its, r1, ⟨⟨cls, dd, data, sl⟩, n, ho, hc, hdn, hda⟩, _⟩ := I.list hp
  simp only at hc hda
  subst hc hda
  have ra := KAll.is I _ _ _ h1 r1
  refine call_meets PySem.F.slot_list_count ⟨_, ho, rfl⟩ PySem.F.entry_list_count (PySem.F.args_list_count_2 _ _)
    (SeqAt.list_countAt p its.toArray n dd sl u (isKey s.heap k)) ⟨ho, fun y hy => item_eqAt rfl rk ra (by show X.A.units + 1 + _ < _; omega) y (by simpa using hy), ?_⟩
  have e : its.toArray.toList.countP (isKey s.heap k) = ks.countP fun a => decide (a = k) := count_isKey ra
  rw [e]
  exact ⟨.int _, H, I.tok _, ⟨s.toks, rfl⟩, q⟩

/-! ### repr of a list -/
def rRepr (K : PySem.W.Frag) : List V → Hp → VK → Prop := fun vs H Q => ∃ (a : Addr) (xs : List V) (ks : List NestedKey), vs = [.ref a] ∧ SqL K H a xs ∧ KAll H xs ks ∧ NestedKey.depthAll ks ≤ 30 ∧
  PyData.showableAll (NestedKey.datas ks) = true ∧ (PyData.shown (.list (NestedKey.datas ks))).length ≤ sizeLine ∧ Q (.str (PyData.shown (.list (NestedKey.datas ks)))) H
mutual
theorem hasDict_data : ∀ k : NestedKey, k.data.hasDict = false
  | .none => by simp [NestedKey.data, PyData.hasDict]
  | .num _ => by simp [NestedKey.data, PyData.hasDict]
  | .text _ => by simp [NestedKey.data, PyData.hasDict]
  | .tup ks => by simp only [NestedKey.data, PyData.hasDict]; exact hasDict_datas ks
theorem hasDict_datas : ∀ ks : List NestedKey, PyData.hasDictAll (NestedKey.datas ks) = false
  | [] => by simp [NestedKey.datas, PyData.hasDictAll]
  | k :: ks => by simp only [NestedKey.datas, PyData.hasDictAll]; rw [hasDict_data k, hasDict_datas ks]; rfl
end
mutual
theorem depth_data : ∀ k : NestedKey, k.data.depth = k.depth
  | .none => by simp [NestedKey.data, PyData.depth, NestedKey.depth]
  | .num _ => by simp [NestedKey.data, PyData.depth, NestedKey.depth]
  | .text _ => by simp [NestedKey.data, PyData.depth, NestedKey.depth]
  | .tup ks => by simp only [NestedKey.data, PyData.depth, NestedKey.depth]; rw [depth_datas ks]
theorem depth_datas : ∀ ks : List NestedKey, PyData.depthAll (NestedKey.datas ks) = NestedKey.depthAll ks
  | [] => by simp [NestedKey.datas, PyData.depthAll, NestedKey.depthAll]
  | k :: ks => by simp only [NestedKey.datas, PyData.depthAll, NestedKey.depthAll]; rw [depth_data k, depth_datas ks]
end
theorem cr_repr (hg : X.A.guards = some []) (hu : X.A.units + 64 < cLine) : CallR X (.builtin "repr") (rRepr X.K) := by
  intro pins s σ H vs us Q I r h
  obtain ⟨a, xs, ks, rfl, hs, ha, hd, hsh, hl, q⟩ := h
  rw [Vals.ref1 r]
  obtain ⟨as, rd⟩ := Dp.reads I (.list (NestedKey.datas ks)) (.ref a) (.ref a) (.lst hs (KAll.dp ks xs ha)) rfl
  have hdep : (PyData.list (NestedKey.datas ks)).depth ≤ 31 := by
    simp only [PyData.depth]; rw [depth_datas]; omega
  refine repr_of_reads' (h₀ := s.heap) rd (by simpa [PyData.showable] using hsh) (fun z => ?_) hg (by omega) (fun _ _ e => e) (fun h' u tk hk => ⟨.str _, H, I.kept hk, ⟨_, rfl⟩, q⟩) hl
  have e : (PyData.list (NestedKey.datas ks)).hasDict = PyData.hasDictAll (NestedKey.datas ks) := by simp [PyData.hasDict]
  rw [e, hasDict_datas] at z
  cases z
end
end CB
/-! CBLib3 -/
set_option Elab.async false
set_option autoImplicit false
set_option linter.all false
set_option maxRecDepth 100000
set_option maxHeartbeats 2000000
/-! Dicts keyed by nested tuples: the exact object is tracked, what it says is told beside it. -/
namespace CB
open PySem PySem.Spec PyProof.Rows L2

def exO (d : Addr) (o : Obj) : HO := .ext fun h => h.get? d = some o
abbrev KN (H : Hp) : List (NestedKey × V) → List (NestedKey × Addr × Value) → Prop := Paired fun p q => p.1 = q.1 ∧ KAt H (.ref q.2.1) p.1 ∧ p.1.depth ≤ 8 ∧ RelV p.2 q.2.2
/-- the object o is a dict of kvs -/
structure DNo (P : Program) (w : World) (H : Hp) (d : Addr) (o : Obj) (kvs : List (NestedKey × V)) : Prop where
  ne : (d == sysModules) = false
  len : kvs.length ≤ sizeLine
  ex : ∃ (es : Array DictEntry) (ep : Nat) (xs : List (NestedKey × Addr × Value)), o.ExactDict ∧ o.data = .dict es ep ∧ es.toList = xs.map (entryOfKey (nestedKind P w)) ∧ (xs.map (·.1)).Nodup ∧ KN H kvs xs
/-- at d stands a dict of kvs -/
def DN (P : Program) (w : World) (H : Hp) (d : Addr) (kvs : List (NestedKey × V)) : Prop := ∃ o, H d = some (exO d o) ∧ DNo P w H d o kvs

section
variable {P : Program} {w : World} {H H' : Hp} {d : Addr} {o : Obj} {kvs : List (NestedKey × V)}
theorem KN.keep {xs : List (NestedKey × Addr × Value)} (ht : TupLe H H') (r : KN H kvs xs) : KN H' kvs xs := Paired.mapP r fun _ _ z => ⟨z.1, KAt.keep ht _ _ z.2.1, z.2.2⟩
theorem DNo.keep (ht : TupLe H H') (x : DNo P w H d o kvs) : DNo P w H' d o kvs := by
  obtain ⟨h1, h2, es, ep, xs, h3, h4, h5, h6, h7⟩ := x
  exact ⟨h1, h2, es, ep, xs, h3, h4, h5, h6, h7.keep ht⟩
theorem DN.keep (x : DN P w H d kvs) (ht : TupLe H H') (hd : H' d = H d) : DN P w H' d kvs := by
  obtain ⟨o, h1, h2⟩ := x
  exact ⟨o, by rw [hd]; exact h1, h2.keep ht⟩
theorem DN.same (x : DN P w H d kvs) (e : Same H H') : DN P w H' d kvs := by
  obtain ⟨o, h1, h2⟩ := x
  exact ⟨o, e _ _ h1, h2.keep (.of_same e)⟩
theorem DN.some (x : DN P w H d kvs) : ∃ φ, H d = some (.ext φ) := by obtain ⟨o, h1, _⟩ := x; exact ⟨_, h1⟩
theorem KN.val {xs : List (NestedKey × Addr × Value)} (r : KN H kvs xs) (k : NestedKey) : RelO (valV kvs k) ((atKey xs k).map (·.2)) := by
  induction r with
  | nil => exact True.intro
  | @cons p q ps qs h t ih =>
    obtain ⟨h1, _, _, h2⟩ := h
    by_cases e : p.1 = k
    · have b : atKey (q :: qs) k = Option.some q.2 := by simp [atKey, List.find?_cons, h1.symm.trans e]
      rw [valV_pos e, b]; exact h2
    · have e' : ¬ q.1 = k := fun z => e (h1.trans z)
      have b : atKey (q :: qs) k = atKey qs k := by simp [atKey, List.find?_cons, e']
      rw [valV_neg e, b]; exact ih
theorem KN.repl {xs : List (NestedKey × Addr × Value)} (r : KN H kvs xs) (k : NestedKey) {y : V} {u : Value} (ry : RelV y u) : KN H (kvs.map fun kv => if kv.1 = k then (kv.1, y) else kv) (xs.map (putAt k u)) := by
  induction r with
  | nil => exact .nil
  | @cons p q ps qs h t ih =>
    rw [List.map_cons, List.map_cons]
    refine .cons ?_ ih
    obtain ⟨h1, h2, h3, h4⟩ := h
    unfold putAt
    by_cases e : p.1 = k
    · rw [if_pos e, if_pos (h1.symm.trans e)]; exact ⟨h1, h2, h3, ry⟩
    · rw [if_neg e, if_neg fun z => e (h1.trans z)]; exact ⟨h1, h2, h3, h4⟩
theorem KN.put {xs : List (NestedKey × Addr × Value)} (r : KN H kvs xs) (k : NestedKey) {b : Addr} {y : V} {u : Value} (hb : KAt H (.ref b) k) (hk : k.depth ≤ 8) (ry : RelV y u) : KN H (putK kvs k y) (storedH xs k b u) := by
  have e : (kvs.any fun kv => decide (kv.1 = k)) = (atKey xs k).isSome := by rw [valV_any, (r.val k).isSome_eq, Option.isSome_map]
  unfold putK storedH
  rw [e]
  by_cases q : (atKey xs k).isSome = true
  · rw [if_pos q, if_pos q]; exact r.repl k ry
  · rw [if_neg q, if_neg q]; exact Paired.snoc r ⟨rfl, hb, hk, ry⟩
theorem KN.drop {xs : List (NestedKey × Addr × Value)} (r : KN H kvs xs) (k : NestedKey) : KN H (dropK kvs k) (withoutH xs k) := by
  induction r with
  | nil => exact .nil
  | @cons p q ps qs h t ih =>
    obtain ⟨h1, h2⟩ := h
    unfold dropK withoutH at ih ⊢
    by_cases e : p.1 = k
    · have e' : q.1 = k := h1.symm.trans e
      rw [List.filter_cons, if_neg (by simp [e]), List.filter_cons, if_neg (by simp [e'])]; exact ih
    · have e' : ¬ q.1 = k := fun z => e (h1.trans z)
      rw [List.filter_cons, if_pos (by simp [e]), List.filter_cons, if_pos (by simp [e'])]; exact .cons ⟨h1, h2⟩ ih
theorem KN.nodup {xs : List (NestedKey × Addr × Value)} (r : KN H kvs xs) (hn : (xs.map (·.1)).Nodup) : (kvs.map (·.1)).Nodup := by
  have e : kvs.map (·.1) = xs.map (·.1) := by
    clear hn
    induction r with
    | nil => rfl
    | cons h t ih => rw [List.map_cons, List.map_cons, ih, h.1]
  rw [e]; exact hn
theorem DN.nodup (x : DN P w H d kvs) : (kvs.map (·.1)).Nodup := by
  obtain ⟨o, _, _, _, es, ep, xs, _, _, _, h6, h7⟩ := x
  exact h7.nodup h6
theorem DN.le (x : DN P w H d kvs) : kvs.length ≤ sizeLine := by obtain ⟨o, _, h⟩ := x; exact h.len
end

section
variable {X : Cx} {pins : List (Addr × Obj)} {σ : L2.St} {H : Hp} {s : Shared} {d : Addr} {kvs : List (NestedKey × V)}
theorem key_is (I : Inv X pins σ H s) {k : NestedKey} {b : Addr} (h : KAt H (.ref b) k) (hk : k.depth ≤ 8) : (nestedKind X.prog X.w).is s.heap k b := ⟨KAt.is I _ _ _ h rfl, hk⟩
theorem DNo.of (I : Inv X pins σ H s) {o : Obj} (hd : H d = some (exO d o)) (x : DNo X.prog X.w H d o kvs) : ∃ xs, KN H kvs xs ∧ s.heap.DictOfH (nestedKind X.prog X.w) d xs ∧ s.heap.get? d = some o := by
  obtain ⟨h1, h2, es, ep, xs, h3, h4, h5, h6, h7⟩ := x
  have hg : s.heap.get? d = some o := (I.hok d _ hd).1
  refine ⟨xs, h7, ⟨o, es, ep, hg, h3, h4, h5, ?_, h6⟩, hg⟩
  have all : ∀ {l : List (NestedKey × V)} {m : List (NestedKey × Addr × Value)}, KN H l m → ∀ x ∈ m, (nestedKind X.prog X.w).is s.heap x.1 x.2.1 := by
    intro l m q
    induction q with
    | nil => intro x hx; exact nomatch hx
    | @cons p q ps qs hq t ih =>
      intro x hx
      rcases List.mem_cons.mp hx with e | hx
      · subst e
        exact key_is I (by rw [← hq.1]; exact hq.2.1) (by rw [← hq.1]; exact hq.2.2.1)
      · exact ih x hx
  exact all h7
theorem DN.of (I : Inv X pins σ H s) (x : DN X.prog X.w H d kvs) : ∃ xs, KN H kvs xs ∧ s.heap.DictOfH (nestedKind X.prog X.w) d xs ∧ (d == sysModules) = false := by
  obtain ⟨o, hd, x⟩ := x
  obtain ⟨xs, h1, h2, _⟩ := x.of I hd
  exact ⟨xs, h1, h2, x.ne⟩
theorem dn_room {A : Around} (hu : A.units + 64 < cLine) : (nestedKind X.prog X.w).room A.in1 := by show A.units + 1 + 8 < cLine; omega
theorem dn_typeIs (I : Inv X pins σ H s) (x : DN X.prog X.w H d kvs) : s.TypeIs (.ref d) "dict" ∧ (∀ b, Value.ref d = .ref b → ∃ ob, s.heap.get? b = some ob ∧ ob.dict = none) := by
  obtain ⟨xs, _, hm, _⟩ := x.of I
  obtain ⟨o, es, ep, h1, h2, _⟩ := id hm
  exact ⟨hm.typeIs, fun b e => by cases e; exact ⟨o, h1, h2.2.1⟩⟩
theorem ext_ok {P : Program} {w : World} {H : Hp} {h : Heap} {d : Addr} {o : Obj} (e : h.get? d = some o) : ObjOk P w H h d (exO d o) := ⟨e, ⟨o, e⟩, fun _ _ a b => b _ a⟩
/-- the dict's object is put for another one -/
theorem dn_put (I : Inv X pins σ H s) {h' : Heap} {tk : Nat} {o o' : Obj} (hd : H d = some (exO d o)) (sb : Heap.SameBut d s.heap h') (he : h'.get? d = some o') : Inv X pins σ (upd H d (exO d o')) { s with heap := h', toks := tk } :=
  I.write (x := d) (e := d) (by rw [hd]; exact True.intro) (.inl rfl) (fun b q hb z => (sb.2 b hb).trans z) ⟨_, he⟩ (ext_ok he)
theorem tupLe_upd {o o' : Obj} (hd : H d = some (exO d o)) : TupLe H (upd H d (exO d o')) := fun b ys e => by
  rw [upd_ne (ne_of e hd (by intro z; cases z))]; exact e
end

/-! ### rules -/
/-- d[k] -/
def tNGet (P : Program) (w : World) (td ty : TE) : TE := fun σ H Q => td σ H fun x H1 => ty σ H1 fun y H2 => ∃ d kvs k v, x = .ref d ∧ DN P w H2 d kvs ∧ KAt H2 y (.tup k) ∧ (NestedKey.tup k).depth ≤ 8 ∧ valV kvs (.tup k) = some v ∧ Q v H2
/-- k in d -/
def tNIn (P : Program) (w : World) (ty td : TE) : TE := fun σ H Q => ty σ H fun y H1 => td σ H1 fun x H2 => ∃ d kvs k, x = .ref d ∧ DN P w H2 d kvs ∧ KAt H2 y (.tup k) ∧ (NestedKey.tup k).depth ≤ 8 ∧ Q (.bl (valV kvs (.tup k)).isSome) H2
/-- d[k] = v -/
def sNPut (P : Program) (w : World) (td ty tv : TE) : TS := fun D σ H => tv σ H fun v H1 => td σ H1 fun x H2 => ty σ H2 fun y H3 => ∃ d kvs k, x = .ref d ∧ DN P w H3 d kvs ∧ KAt H3 y (.tup k) ∧ (NestedKey.tup k).depth ≤ 8 ∧ kvs.length < sizeLine ∧
  ∀ H', (∀ b, b ≠ d → H' b = H3 b) → DN P w H' d (putK kvs (.tup k) v) → D.nx σ H'
/-- d.get(k, x) -/
def tNGet2 (P : Program) (w : World) (td ty tx : TE) : TE := fun σ H Q => td σ H fun x H1 => ∃ d, x = .ref d ∧ (∃ kvs, DN P w H1 d kvs) ∧ ty σ H1 fun y H2 => tx σ H2 fun z H3 => ∃ kvs k, DN P w H3 d kvs ∧ KAt H3 y (.tup k) ∧ (NestedKey.tup k).depth ≤ 8 ∧ Q ((valV kvs (.tup k)).getD z) H3
/-- d.pop(k), there -/
def tNPop (P : Program) (w : World) (td ty : TE) : TE := fun σ H Q => td σ H fun x H1 => ∃ d, x = .ref d ∧ (∃ kvs, DN P w H1 d kvs) ∧ ty σ H1 fun y H2 => ∃ kvs k v, DN P w H2 d kvs ∧ KAt H2 y (.tup k) ∧ (NestedKey.tup k).depth ≤ 8 ∧ valV kvs (.tup k) = some v ∧
  ∀ H', (∀ b, b ≠ d → H' b = H2 b) → DN P w H' d (dropK kvs (.tup k)) → Q v H'
/-- {} -/
def tNNew (P : Program) (w : World) : TE := fun _ H Q => ∀ p H', H p = none → (∀ b, b ≠ p → H' b = H b) → DN P w H' p [] → Q (.ref p) H'

section
variable {X : Cx} {o i e f value : Expr} {pos pos' apos cpos : Pos} {td ty tx tv : TE}
theorem pe_nget (hu : X.A.units + 64 < cLine) (ho : PE X o td) (hi : PE X i ty) (hs : NoSl i) : PE X (.Subscript o i pos) (tNGet X.prog X.w td ty) := by
  refine ⟨fun pins s σ H Q I h => ?_⟩
  refine subD_of PySem.F.slot_dict_getitem.lookup hs (thn (ho.run pins s σ H _ I h) fun u s1 ⟨x, H1, I1, rx, q1⟩ => thn (hi.run pins s1 σ H1 _ I1 q1) fun iv s2 ⟨y, H2, I2, ry, d, kvs, k, v, ex, dn, hk, hdp, hv, q2⟩ => ?_)
  subst ex
  obtain rfl : u = Value.ref d := rx
  obtain ⟨b, _, rfl, _⟩ := hk.tupRef
  obtain rfl : iv = Value.ref b := ry
  refine ⟨(dn_typeIs I2 dn).1, ?_⟩
  obtain ⟨xs, r, hm, _⟩ := dn.of I2
  obtain ⟨w', hw, rw'⟩ := RelO.some_of (v := v) (o := (atKey xs (.tup k)).map (·.2)) (by rw [← hv]; exact r.val _)
  obtain ⟨p, hp, rfl⟩ := Option.map_eq_some_iff.mp hw
  exact wpAny_getItem_heap (dn_room hu) (key_is I2 hk hdp) hm hp ⟨v, H2, I2.tok _, rw', q2⟩
theorem pc_nin (hu : X.A.units + 64 < cLine) (hi : PE X i ty) (ho : PE X o td) : PC X .In i o (tNIn X.prog X.w ty td) := by
  refine ⟨fun pins s σ H Q I h => ?_⟩
  refine thn (hi.run pins s σ H _ I h) fun iv s1 ⟨y, H1, I1, ry, q1⟩ => thn (ho.run pins s1 σ H1 _ I1 q1) fun u s2 ⟨x, H2, I2, rx, d, kvs, k, ex, dn, hk, hdp, q2⟩ => ?_
  subst ex
  obtain rfl : u = Value.ref d := rx
  obtain ⟨b, _, rfl, _⟩ := hk.tupRef
  obtain rfl : iv = Value.ref b := ry
  obtain ⟨xs, r, hm, hd⟩ := dn.of I2
  refine wpAny_in_heap (dn_room hu) (key_is I2 hk hdp) hd hm ?_
  have e : (atKey xs (.tup k)).isSome = (valV kvs (.tup k)).isSome := by rw [(r.val (.tup k)).isSome_eq, Option.isSome_map]
  rw [e]
  exact ⟨.bl _, H2, I2.tok _, rfl, q2⟩
theorem ps_nput (hu : X.A.units + 64 < cLine) (ho : PE X o td) (hi : PE X i ty) (hv : PE X value tv) (hs : swapsWith value (some (.Subscript o i pos')) pos.line X.env = pure false) :
    PS X (.Assign [.Subscript o i pos'] value pos) (sNPut X.prog X.w td ty tv) := by
  refine ⟨fun pins s σ H D I h => ?_⟩
  refine wpAny_Assign_Subscript (thn (hv.run pins s σ H _ I h) fun r s1 ⟨v, H1, I1, rv, q1⟩ => thn (ho.run pins s1 σ H1 _ I1 q1) fun u s2 ⟨x, H2, I2, rx, q2⟩ => thn (hi.run pins s2 σ H2 _ I2 q2) fun iv s3 ⟨y, H3, I3, ry, d, kvs, k, ex, dn, hk, hdp, hl, q3⟩ => ?_) hs
  subst ex
  obtain rfl : u = Value.ref d := rx
  obtain ⟨b, _, rfl, _⟩ := hk.tupRef
  obtain rfl : iv = Value.ref b := ry
  obtain ⟨od, hd, x⟩ := dn
  obtain ⟨xs, rel, hm, hg⟩ := x.of I3 hd
  have hz : xs.length ≤ sizeLine := by rw [← Paired.length rel]; exact x.len
  refine wpAny_setItem_heap (hsz := hz) (dn_room hu) (key_is I3 hk hdp) hm fun h' dd' sb => ?_
  obtain ⟨o', es, ep, h1, h2, h3, h4, _, h5⟩ := dd'
  refine ⟨σ, _, dn_put I3 hd sb h1, q3 _ (fun b hb => upd_ne hb) ⟨o', upd_same, x.ne, by have := length_putK kvs (.tup k) v; omega, es, ep, _, h2, h3, h4, h5, ?_⟩⟩
  exact (rel.put _ hk hdp rv).keep (tupLe_upd hd)
theorem pe_nget2 (hu : X.A.units + 64 < cLine) (ho : PE X o td) (he : PE X e ty) (hf : PE X f tx) (m : M2 X o "get" apos e f cpos) : PE X (.Call (.Attribute o "get" apos) [e, f] [] cpos) (tNGet2 X.prog X.w td ty tx) := by
  refine ⟨fun pins s σ H Q I h => ?_⟩
  refine wpAny_Call_method m.base m.few m.line PySem.F.plainAttrs_dict PySem.F.slot_dict_get PySem.F.type_dict_get (thn (ho.run pins s σ H _ I h) fun u s1 ⟨x, H1, I1, rx, d, ex, ⟨kvs0, dn0⟩, q1⟩ => ?_)
  subst ex
  obtain rfl : u = Value.ref d := rx
  obtain ⟨t1, t2⟩ := dn_typeIs I1 dn0
  refine ⟨t1, t2, ?_⟩
  rw [m.trees]
  refine Calls.callWith_builtin rfl (Calls.evalArgs_plain (Calls.spliced_cons (thn (he.run pins s1 σ H1 _ I1 q1) fun iv s2 ⟨y, H2, I2, ry, q2⟩ =>
    Calls.spliced_cons (thn (hf.run pins s2 σ H2 _ I2 q2) fun fv s3 ⟨z, H3, I3, rz, kvs, k, dn, hk, hdp, q3⟩ => Calls.spliced_nil ?_))))
  obtain ⟨b, _, rfl, _⟩ := hk.tupRef
  obtain rfl : iv = Value.ref b := ry
  obtain ⟨xs, rel, hm, hd⟩ := dn.of I3
  refine call_meetsIn PySem.F.slot_dict_get hm.typeIs PySem.F.entry_dict_get (PySem.F.args_dict_get_3 _ _ _) (meetsH_dict_get_default (nestedKind X.prog X.w) d b hd fv) ⟨dn_room hu, .tup k, xs, key_is I3 hk hdp, hm, ⟨_, H3, I3.tok _, ?_, q3⟩⟩
  exact (rel.val (.tup k)).getD rz
theorem pe_npop (hu : X.A.units + 64 < cLine) (ho : PE X o td) (he : PE X e ty) (m : M1 X o "pop" apos e cpos) : PE X (.Call (.Attribute o "pop" apos) [e] [] cpos) (tNPop X.prog X.w td ty) := by
  refine ⟨fun pins s σ H Q I h => ?_⟩
  refine wpAny_Call_method m.base m.few m.line PySem.F.plainAttrs_dict PySem.F.slot_dict_pop PySem.F.type_dict_pop (thn (ho.run pins s σ H _ I h) fun u s1 ⟨x, H1, I1, rx, d, ex, ⟨kvs0, dn0⟩, q1⟩ => ?_)
  subst ex
  obtain rfl : u = Value.ref d := rx
  obtain ⟨t1, t2⟩ := dn_typeIs I1 dn0
  refine ⟨t1, t2, ?_⟩
  rw [m.trees]
  refine Calls.callWith_builtin rfl (Calls.evalArgs_plain (Calls.spliced_cons (thn (he.run pins s1 σ H1 _ I1 q1) fun iv s2 ⟨y, H2, I2, ry, kvs, k, v, dn, hk, hdp, hv, q2⟩ => Calls.spliced_nil ?_)))
  obtain ⟨b, _, rfl, _⟩ := hk.tupRef
  obtain rfl : iv = Value.ref b := ry
  obtain ⟨od, hd, x⟩ := dn
  obtain ⟨xs, rel, hm, hg⟩ := x.of I2 hd
  have hz : xs.length ≤ sizeLine := by rw [← Paired.length rel]; exact x.len
  obtain ⟨w', hw, rw'⟩ := RelO.some_of (v := v) (o := (atKey xs (.tup k)).map (·.2)) (by rw [← hv]; exact rel.val _)
  obtain ⟨p, hp, rfl⟩ := Option.map_eq_some_iff.mp hw
  refine call_pop_heap (more := []) (.inl rfl) (PySem.F.args_dict_pop_2 _ _) (dn_room hu) (key_is I2 hk hdp) x.ne hm hp (fun h' hm' sb => ?_) hz
  obtain ⟨o', es, ep, h1, h2, h3, h4, _, h5⟩ := hm'
  refine ⟨v, _, dn_put I2 hd sb h1, rw', q2 _ (fun b hb => upd_ne hb) ⟨o', upd_same, x.ne, Nat.le_trans (dropK_le _ _) x.len, es, ep, _, h2, h3, h4, h5, ?_⟩⟩
  exact (rel.drop _).keep (tupLe_upd hd)
theorem pe_nnew : PE X (.Dict [] [] pos) (tNNew X.prog X.w) := ⟨fun pins s σ H Q I h => by
  have hn := I.hok.fresh (Nat.le_refl s.heap.objs.size)
  have hg : (s.heap.push { cls := .type "dict", data := .dict #[] }).get? s.heap.objs.size = some { cls := .type "dict", data := .dict #[] } := Heap.get?_push_size _ rfl
  refine wpAny_Dict_empty ⟨.ref s.heap.objs.size, _, I.laid (a := s.heap.objs.size) (o := exO s.heap.objs.size { cls := .type "dict", data := .dict #[] }) (t' := s.toks) (fun _ _ q => Heap.get?_push_of_some _ q) (Nat.le_refl _) (ext_ok hg), rfl, h _ _ hn (fun b hb => upd_ne hb) ?_⟩
  exact ⟨_, upd_same, beq_eq_false_iff_ne.mpr (Ne.symm (Nat.ne_of_lt I.big)), Nat.zero_le _, #[], 0, [], ⟨rfl, rfl, rfl⟩, rfl, rfl, List.nodup_nil, .nil⟩⟩
end
end CB
/-! CBLib4 -/
set_option Elab.async false
set_option autoImplicit false
set_option linter.all false
set_option maxRecDepth 100000
set_option maxHeartbeats 2000000
/-! Such dicts walked, listed, counted, made of pairs. -/
namespace CB
open PySem PySem.Spec PyProof.Rows L2

/-- the keys of the dict at d, as it stands -/
def Itn (P : Program) (w : World) (d : Addr) (o : Obj) (kvs : List (NestedKey × V)) : It :=
  ⟨fun i H => H d = some (exO d o) ∧ DNo P w H d o kvs ∧ i < kvs.length, fun i H x H' => H' = H ∧ ∃ k v, kvs[i]? = some (k, v) ∧ KAt H x k, fun i H => H d = some (exO d o) ∧ DNo P w H d o kvs ∧ kvs.length ≤ i⟩
theorem KN.getE {P : Program} {w : World} {H : Hp} {kvs : List (NestedKey × V)} {xs : List (NestedKey × Addr × Value)} {es : Array DictEntry} (r : KN H kvs xs) (he : es.toList = xs.map (entryOfKey (nestedKind P w))) {i : Nat} {k : NestedKey} {v : V} (e : kvs[i]? = some (k, v)) :
    ∃ (en : DictEntry) (b : Addr), es[i]? = some en ∧ en.key = .ref b ∧ KAt H (.ref b) k := by
  obtain ⟨x, hx, e1, e2, _⟩ := paired_get r e
  have q := entry_at he i
  rw [hx] at q
  exact ⟨_, x.2.1, q, rfl, e2⟩
section
variable {P : Program} {w : World} {K : PySem.W.Frag} {tg : Expr} {d : Addr} {o : Obj} {es : Array DictEntry} {ep : Nat} {kvs : List (NestedKey × V)}
theorem turn_dn (it : Addr) (hod : o.data = .dict es ep) (hsz : es.size = kvs.length) : Turn P w K tg (Itn P w d o kvs) [it] it (fun i h => h.IsKeyIter it d i kvs.length ep) where
  mem := by simp
  obj := fun i h st b hb => by
    have e : b = it := by simpa using hb
    obtain ⟨oi, e1, c, dd⟩ := st
    exact ⟨oi, by rw [e]; exact e1, fun v z => by rw [dd] at z; cases z⟩
  keep := fun i h h' st k => st.at fun oi e => k it (List.mem_singleton.mpr rfl) oi e
  item := by
    intro X hP hw hK hc i pins s σ H E I hf st hg
    subst hP hw hK
    obtain ⟨hd, dn, hi⟩ := hg
    obtain ⟨f0, f1, f2, f3, f4, f5⟩ := hf it (List.mem_singleton.mpr rfl)
    have hgd : s.heap.get? d = some o := (I.hok d _ hd).1
    obtain ⟨_, _, es', ep', xs, hx, hdt, he, hn, r⟩ := dn
    obtain ⟨rfl, rfl⟩ := dict_ep hod hdt
    obtain ⟨⟨k, v⟩, hkv⟩ : ∃ p, kvs[i]? = some p := ⟨kvs[i], List.getElem?_eq_getElem hi⟩
    obtain ⟨en, b, hen, hkey, hb⟩ := r.getE he hkv
    refine next_key_item st hgd hdt hsz hen fun h' st' sb => ?_
    have I1 : Inv X pins σ H { s with heap := h' } := I.turned (t' := s.toks) (fun c ob hc e => (sb.2 c hc).trans e) f0 f1 f3 f4 f5
    obtain ⟨oi, e, c, dd⟩ := id st'
    exact ⟨en.key, rfl, go_of (s := { s with heap := h' }) e c dd (by decide) ⟨.ref b, H, I1, hkey, ⟨rfl, k, v, hkv, hb⟩, st', fun c hc => (hf c hc).1⟩⟩
  done := by
    intro X hP hw hK hc i pins s σ H E I hf st hg
    subst hP hw hK
    obtain ⟨hd, dn, hi⟩ := hg
    obtain ⟨f0, f1, f2, f3, f4, f5⟩ := hf it (List.mem_singleton.mpr rfl)
    have hgd : s.heap.get? d = some o := (I.hok d _ hd).1
    exact next_key_end (I.ok.hd hc) st hgd hod hsz hi fun h' eb => ⟨rfl, I.turned (t' := s.toks) (fun c ob hc e => eb c ob hc e) f0 f1 f3 f4 f5⟩
  self := fun A i s Q E st h => wpAny_pyIter_keyiter st h
end
def iDn (P : Program) (w : World) (td : TE) : TI := fun σ H R => td σ H fun x H1 => ∃ d o kvs, x = .ref d ∧ H1 d = some (exO d o) ∧ DNo P w H1 d o kvs ∧ R (Itn P w d o kvs) H1
section
variable {X : Cx} {tg e : Expr} {td : TE}
theorem pi_dn (he : PE X e td) : PI X tg e (iDn X.prog X.w td) := by
  refine ⟨fun pins s σ H R I h => ?_⟩
  refine thn (he.run pins s σ H _ I h) fun u s1 ⟨x, H1, I1, rx, d, o, kvs, ex, hd, dn, q⟩ => ?_
  subst ex
  obtain rfl : u = Value.ref d := rx
  have hgd : s1.heap.get? d = some o := (I1.hok d _ hd).1
  obtain ⟨hs, _, es, ep, xs, hx, hdt, hes, hn, r⟩ := dn
  have hsz : es.size = kvs.length := by rw [size_of_entries hes, Paired.length r]
  refine iter_keys hs hgd hx hdt (pi_one (tk := s1.toks) I1 _ (turn_dn _ hdt hsz) ⟨_, Heap.get?_push_size _ rfl, rfl, ?_⟩ q)
  rw [hsz] <;> rfl

/-- list(d) -/
def rListN (P : Program) (w : World) : List V → Hp → VK → Prop := fun xs H Q => ∃ d kvs, xs = [V.ref d] ∧ DN P w H d kvs ∧ ∀ p (bs : List Addr), H p = none → KAll H (bs.map V.ref) (kvs.map (·.1)) → Q (.ref p) (upd H p (.lst (bs.map V.ref)))
theorem KN.all {H : Hp} {kvs : List (NestedKey × V)} {xs : List (NestedKey × Addr × Value)} (r : KN H kvs xs) : KAll H ((xs.map fun x => x.2.1).map V.ref) (kvs.map (·.1)) := by
  induction r with
  | nil => exact .nil
  | cons h t ih => exact .cons h.2.1 ih
theorem call_listN (hc : X.calm = true) : CallR X (.type "list") (rListN X.prog X.w) := by
  intro pins s σ H xs us Q I r h
  obtain ⟨d, kvs, rfl, ⟨o, hd, dn⟩, q⟩ := h
  obtain ⟨u, rfl, rx⟩ := r.one
  cases rx
  have ho : s.heap.get? d = some o := (I.hok d _ hd).1
  obtain ⟨hs, z, es, ep, ks, hx, hdt, he, hn, pr⟩ := dn
  have l1 : es.size = ks.length := size_of_entries he
  have l2 : kvs.length = ks.length := Paired.length pr
  refine PySem.W.kdl_call (kdl_raw hs hx hdt) (I.ok.hd hc) ho (by omega) fun h' tk acc' c' kp e it => ?_
  have eb : acc'.toList = (ks.map fun x => x.2.1).map Value.ref := by
    rw [List.map_map]
    have hl : acc'.toList.length = ks.length := by rw [Array.length_toList, it.1, l1]
    refine List.ext_getElem? fun j => ?_
    cases hb : ks[j]? with
    | none =>
      have := List.getElem?_eq_none_iff.mp hb
      rw [List.getElem?_eq_none (by omega), List.getElem?_map, hb]
      rfl
    | some b =>
      have hj : j < acc'.toList.length := by rw [hl]; exact (List.getElem?_eq_some_iff.mp hb).1
      have hv := List.getElem?_eq_getElem hj
      obtain ⟨en, hen, hvk⟩ := it.2 j _ (by rw [← Array.getElem?_toList]; exact hv)
      have qe := entry_at he j
      rw [hen, hb] at qe
      rw [hv, hvk, Option.some.inj qe, List.getElem?_map, hb]
      rfl
  have rv : Vals ((ks.map fun x => x.2.1).map V.ref) acc'.toList := by rw [eb]; exact vals_refs _
  refine ⟨.ref s.heap.objs.size, _, I.laid (t' := tk) (o := .lst ((ks.map fun x => x.2.1).map V.ref)) kp (Nat.le_refl _) ?_, rfl, q _ _ (I.hok.fresh (Nat.le_refl _)) pr.all⟩
  exact ⟨by rw [List.length_map, List.length_map]; omega, acc'.toList, c', rv, by rw [Array.toArray_toList]; exact e⟩

/-- len(d) -/
def rLenN (P : Program) (w : World) : List V → Hp → VK → Prop := fun xs H Q => ∃ d kvs, xs = [V.ref d] ∧ DN P w H d kvs ∧ Q (.int kvs.length) H
theorem call_lenN : CallR X (.builtin "len") (rLenN X.prog X.w) := by
  intro pins s σ H xs us Q I r h
  obtain ⟨d, kvs, rfl, dn, q⟩ := h
  obtain ⟨u, rfl, rx⟩ := r.one
  cases rx
  have hl := dn.le
  obtain ⟨xs, rel, hm, hd⟩ := dn.of I
  have e : kvs.length = (pairsH xs).length := by rw [pairsH_length, Paired.length rel]
  rw [e] at q hl
  refine PyProof.Rows.call_len_slot (n := (pairsH xs).length) hm.typeIs PySem.F.slot_dict_len (fun Q' hq => len_keyed hd (⟨xs, hm, rfl⟩ : s.heap.DictKeyed _ d (pairsH xs)) hq) (by omega) (by rw [sizeLine_eq] at hl; omega) ?_
  exact ⟨.int _, H, I.tok _, ⟨_, rfl⟩, q⟩

/-- dict(l) of a list of pairs -/
def rDictN (P : Program) (w : World) (K : PySem.W.Frag) : List V → Hp → VK → Prop := fun xs H Q => ∃ (a : Addr) (ps : List Addr) (kvs : List (NestedKey × V)), xs = [V.ref a] ∧ SqL K H a (ps.map V.ref) ∧
  Paired (fun p kv => ∃ b, H p = some (.tup [.ref b, kv.2]) ∧ KAt H (.ref b) kv.1 ∧ kv.1.depth ≤ 8) ps kvs ∧ ∀ p H', H p = none → (∀ b, b ≠ p → H' b = H b) → DN P w H' p (kvs.foldl (fun acc kv => putK acc kv.1 kv.2) []) → Q (.ref p) H'
theorem pairs_raw {pins : List (Addr × Obj)} {σ : L2.St} {H : Hp} {s : Shared} (I : Inv X pins σ H s) : ∀ {ps : List Addr} {kvs : List (NestedKey × V)}, Paired (fun p kv => ∃ b, H p = some (.tup [.ref b, kv.2]) ∧ KAt H (.ref b) kv.1 ∧ kv.1.depth ≤ 8) ps kvs →
    ∃ xs : List (NestedKey × Addr × Value), KN H kvs xs ∧ Paired (fun p (x : NestedKey × Addr × Value) => s.heap.IsTuple p #[.ref x.2.1, x.2.2]) ps xs
  | _, _, .nil => ⟨[], .nil, .nil⟩
  | _, _, .cons (a := p) (b := kv) h t => by
    obtain ⟨b, h1, h2, h3⟩ := h
    obtain ⟨xs, r1, r2⟩ := pairs_raw I t
    obtain ⟨its, rv, ht, _⟩ := I.tuple (SqT.of (K := X.K) h1)
    obtain ⟨u, y, ei, ru, ry⟩ := vals2 rv
    subst ei
    obtain rfl : u = Value.ref b := ru
    exact ⟨(kv.1, b, y) :: xs, .cons ⟨rfl, h2, h3, ry⟩ r1, .cons ht r2⟩
theorem KN.merge {H : Hp} : ∀ {more : List (NestedKey × V)} {ps : List (NestedKey × Addr × Value)} {kvs : List (NestedKey × V)} {xs : List (NestedKey × Addr × Value)}, KN H more ps → KN H kvs xs →
    KN H (more.foldl (fun acc kv => putK acc kv.1 kv.2) kvs) (storedAllH xs ps)
  | _, _, _, _, .nil, r => r
  | _, _, _, _, .cons (a := p) (b := q) h t, r => by
    obtain ⟨h1, h2, h3, h4⟩ := h
    show KN H (List.foldl _ (putK _ p.1 p.2) _) (storedAllH (storedH _ q.1 q.2.1 q.2.2) _)
    rw [← h1]
    exact KN.merge t (r.put p.1 h2 h3 h4)
theorem call_dictN (hc : X.calm = true) (hu : X.A.units + 64 < cLine) : CallR X (.type "dict") (rDictN X.prog X.w X.K) := by
  intro pins s σ H xs us Q I r h
  obtain ⟨a, ps, kvs, rfl, hs, hp, q⟩ := h
  obtain ⟨u, rfl, rx⟩ := r.one
  cases rx
  obtain ⟨its, rv, ⟨ol, nl, hol, hcl, hdl, hdat⟩, hz⟩ := I.list hs
  have ei := refs_at rv
  subst ei
  rw [List.length_map] at hz
  obtain ⟨ks, rel, tup⟩ := pairs_raw I hp
  have l1 : ps.length = ks.length := Paired.length tup
  let vps : List (Value × Value) := ks.map fun x => (Value.ref x.2.1, x.2.2)
  have lv : vps.length = ks.length := List.length_map _
  have okp : PairItems s.heap (ps.map Value.ref).toArray (fun j => ps.getD j 0) vps := by
    refine ⟨by simp [lv, l1], fun j k v e => ?_⟩
    rw [List.getElem?_map] at e
    cases hk : ks[j]? with
    | none => rw [hk] at e; cases e
    | some x =>
      rw [hk] at e
      obtain ⟨rfl, rfl⟩ := Prod.mk.inj (Option.some.inj e)
      have hj : j < ps.length := by rw [l1]; exact (List.getElem?_eq_some_iff.mp hk).1
      obtain ⟨x', hx', ht⟩ := paired_get tup (List.getElem?_eq_getElem hj)
      rw [hk] at hx'; cases hx'
      have ed : ps.getD j 0 = ps[j] := by rw [List.getD_eq_getElem?_getD, List.getElem?_eq_getElem hj]; rfl
      refine ⟨?_, .inl ?_⟩
      · simp [hj]
      · show s.heap.IsTuple (ps.getD j 0) _
        rw [ed]; exact ht
  have hP : PairsHaveH (nestedKind X.prog X.w) vps.length (PairRel vps) ks := by
    refine ⟨lv.symm, fun i key v e => ?_⟩
    rw [PairRel, List.getElem?_map] at e
    cases hk : ks[i]? with
    | none => rw [hk] at e; cases e
    | some x =>
      rw [hk] at e
      obtain ⟨rfl, rfl⟩ := Prod.mk.inj (Option.some.inj e)
      exact ⟨x.1, x.2.1, rfl, rfl⟩
  have keys : ∀ {l : List (NestedKey × V)} {m : List (NestedKey × Addr × Value)}, KN H l m → ∀ x ∈ m, (nestedKind X.prog X.w).is s.heap x.1 x.2.1 := by
    intro l m q
    induction q with
    | nil => intro x hx; exact nomatch hx
    | @cons p q ps qs hq t ih =>
      intro x hx
      rcases List.mem_cons.mp hx with e | hx
      · subst e
        exact key_is I (by rw [← hq.1]; exact hq.2.1) (by rw [← hq.1]; exact hq.2.2.1)
      · exact ih x hx
  have hst : KeysStay (nestedKind X.prog X.w) s.heap s.heap.objs.size [] ks := fun h' hk x hx =>
    nestedKind_stays.stays (fun b o vs n e _ => hk b o (Nat.ne_of_lt (Heap.lt_size e)) (by simp) e) (keys rel x hx)
  refine call_dict_pairsH (PairArg.list a (ps.map Value.ref).toArray (fun j => ps.getD j 0) vps) (I.ok.hd hc) (by show X.A.units + 1 + 1 + 8 < cLine; omega) ⟨⟨ol, nl, hol, hcl, hdl, hdat⟩, okp⟩ hP hst (by rw [lv, ← l1]; exact hz) fun h' tk hd' hk => ?_
  obtain ⟨o', es, ep, h1, h2, h3, h4, _, h5⟩ := hd'
  have hn := I.hok.fresh (Nat.le_refl s.heap.objs.size)
  refine ⟨.ref s.heap.objs.size, _, I.laid (a := s.heap.objs.size) (o := exO s.heap.objs.size o') (t' := tk) (fun b ob e => hk b ob (by simp) e) (Nat.le_refl _) (ext_ok h1), rfl, q _ _ hn (fun b hb => upd_ne hb) ?_⟩
  have rm : KN H (kvs.foldl (fun acc kv => putK acc kv.1 kv.2) []) (storedAllH [] ks) := KN.merge rel .nil
  have lm : ∀ (more kvs : List (NestedKey × V)), (more.foldl (fun acc kv => putK acc kv.1 kv.2) kvs).length ≤ kvs.length + more.length := by
    intro more
    induction more with
    | nil => intro kvs; exact Nat.le_refl _
    | cons p r ih =>
      intro kvs
      have := ih (putK kvs p.1 p.2)
      have h2 := length_putK kvs p.1 p.2
      rw [List.foldl_cons, List.length_cons]; omega
  refine ⟨o', upd_same, beq_eq_false_iff_ne.mpr (Ne.symm (Nat.ne_of_lt I.big)), ?_, es, ep, _, h2, h3, h4, h5, rm.keep (.upd_new hn)⟩
  have h1 := lm kvs []
  have h2 := Paired.length hp
  rw [List.length_nil] at h1; omega
end
end CB
/-! CBLib5 -/
set_option Elab.async false
set_option autoImplicit false
set_option linter.all false
set_option maxRecDepth 100000
set_option maxHeartbeats 2000000
/-! enumerate, extend, sum of a tuple. -/
namespace CB
open PySem PySem.Spec PyProof.Rows L2

/-! ### enumerate(tuple) -/
theorem meets_enum_tup (l : Addr) (items : Array Value) (n : Nat) (dct : Option Addr) (sl : Array (Option Value)) :
    Meets (Builtin.«enumerate.__new__» ⟨[.type "enumerate", .ref l], []⟩) (fun _ R s => s.heap.get? l = some { cls := .type "tuple", dict := dct, data := .seq items n, slots := sl } ∧
      R (.ok (.ret (.ref (s.heap.push { cls := .type "tuple_iterator", data := .fields #[.ref l, .int 0 0] }).objs.size)))
        { s with heap := (s.heap.push { cls := .type "tuple_iterator", data := .fields #[.ref l, .int 0 0] }).push { cls := .type "enumerate", data := .fields #[.none, .bool false, .ref s.heap.objs.size, rawInt 0, .none, .none] } }) :=
  .of_wp fun prog w A R s h => by
    obtain ⟨hp, g, d, tk, os⟩ := s
    obtain ⟨hl, h⟩ := h
    have hsub := sub_enumerate
    have hT : Heap.IsTuple (Shared.heap ⟨hp, g, d, tk, os⟩) l items := ⟨_, hl, rfl, n, rfl⟩
    wp_walk using AutoSeq1.wpAny_loadPart' hl
    refine wpAny_stack_any fun st => wpAny_pure ?_
    split
    · rename_i c _ _ _ _ _
      cases (c == Value.type "enumerate")
      all_goals (wp_walk using AutoSeq1.wpAny_loadPart' hl, wpAny_pyIter_tuple hT; exact ⟨_, rfl, h⟩)
    · wp_walk using AutoSeq1.wpAny_loadPart' hl, wpAny_pyIter_tuple hT
      exact ⟨_, rfl, h⟩
section
variable {prog : Program} {w : World} {A : Around} {E : Value → Shared → Prop} {s : Shared}
theorem call_enum_tup {l : Addr} {items : Array Value} {Q : Value → Shared → Prop} (hL : s.heap.IsTuple l items)
    (h : ∀ h', IsEnum h' (s.heap.objs.size + 1) s.heap.objs.size 0 .none → h'.IsTupleIter s.heap.objs.size l 0 → (∀ b o, s.heap.get? b = some o → h'.get? b = some o) → Q (.ref (s.heap.objs.size + 1)) { s with heap := h' }) :
    wpAny (model prog w) A (call (.type "enumerate") [.ref l]) Q E s := by
  obtain ⟨⟨c, dct, dt, sl⟩, hl, hc, n, hd⟩ := hL
  have hc' : c = .type "tuple" := hc
  have hd' : dt = .seq items n := hd
  subst hc' hd'
  have hz : (s.heap.push { cls := .type "tuple_iterator", data := .fields #[.ref l, .int 0 0] }).objs.size = s.heap.objs.size + 1 := Heap.size_push ..
  have he := Heap.get?_push_size (s.heap.push { cls := .type "tuple_iterator", data := .fields #[.ref l, .int 0 0] }) (o := { cls := .type "enumerate", data := .fields #[.none, .bool false, .ref s.heap.objs.size, rawInt 0, .none, .none] }) rfl
  rw [hz] at he
  refine callType_new PySem.F.called_enumerate (by decide) (PySem.F.typeCall_enumerate_1 _) (PySem.F.newCall_enumerate_1 _) (fun obj => PySem.F.args_object_init_2 obj _) PySem.F.entry_enumerate_new (meets_enum_tup l items n dct sl) ⟨hl, ?_⟩
  show _ ∧ _
  rw [hz]
  exact ⟨⟨_, he, rfl⟩, h _ he ⟨_, Heap.get?_push_of_some _ (Heap.get?_push_size _ rfl), rfl, rfl⟩ fun b o x => Heap.get?_push_of_some _ (Heap.get?_push_of_some _ x)⟩
end
def Itet (K : PySem.W.Frag) (a : Addr) (xs : List V) : It :=
  ⟨fun i H => SqT K H a xs ∧ i < xs.length, fun i H v H' => ∃ T x, v = .ref T ∧ H T = none ∧ H' = upd H T (.tup [.int (i : Nat), x]) ∧ xs[i]? = some x, fun i H => SqT K H a xs ∧ i = xs.length⟩
theorem turn_enumT {P : Program} {w : World} {K : PySem.W.Frag} {elts : List Expr} {kk : Nat} {tpos : Pos} (a e it : Addr) (xs : List V) :
    Turn P w K (.Tuple elts kk tpos) (Itet K a xs) [e, it] e (fun i h => (∃ old, IsEnum h e it ((i : Nat) : Int) old) ∧ h.IsTupleIter it a i ∧ e ≠ it ∧ a ≠ it ∧ a ≠ e) where
  mem := by simp
  obj := fun i h st b hb => by
    obtain ⟨⟨old, he⟩, ⟨o, ho, hc, hd⟩, _⟩ := st
    have e' : b = e ∨ b = it := by simpa using hb
    rcases e' with z | z
    · subst z; exact ⟨_, he, fun v q => nomatch q⟩
    · subst z; exact ⟨o, ho, fun v q => by rw [hd] at q; cases q⟩
  keep := fun i h h' st k => let ⟨⟨old, he⟩, hi, hne⟩ := st; ⟨⟨old, k e (by simp) _ he⟩, hi.at fun o q => k it (by simp) o q, hne⟩
  item := by
    intro X hP hw hK hc i pins s σ H E I hf st hg
    subst hP hw hK
    obtain ⟨⟨old, he⟩, hit, hne, hai, hae⟩ := st
    obtain ⟨hq, hi⟩ := hg
    obtain ⟨x, hx⟩ : ∃ x, xs[i]? = some x := ⟨xs[i], List.getElem?_eq_getElem hi⟩
    obtain ⟨its, rv, p, hz⟩ := I.tuple hq
    have hel : e < s.heap.objs.size := Heap.lt_size he
    have hil : it < s.heap.objs.size := by obtain ⟨_, q, _⟩ := hit; exact Heap.lt_size q
    have D := Draws.tuple (prog := X.prog) (w := X.w) (A := X.A.in1) (I.ok.hd hc) it a hai its.toArray
    refine wpAny_pyNext_enum_itemC D he ⟨hit, p⟩ (by have := rv.length; simp; omega) hne (by simp; exact ⟨hne, fun z => hae z.symm⟩) fun y h' tk hy ho hst hT hsz hk => ?_
    obtain ⟨u, hu, ru⟩ := rv.get hx
    have ey : u = y := by
      have q : its[i]? = some y := by simpa using hy
      rw [hu] at q; exact Option.some.inj q
    subst ey
    refine ⟨_, rfl, wpAny_letOwnedTupleGo_enum (s := { s with heap := h', toks := tk + 1 }) ho fun h'' he' sb => ?_⟩
    have hT2 : h''.get? s.heap.objs.size = some { cls := .type "tuple", data := .seq #[.int i tk, u] } := (sb.2 _ (Nat.ne_of_gt hel)).trans hT
    have new : ObjOk X.prog X.w (upd H s.heap.objs.size (.tup [.int (i : Nat), x])) h'' s.heap.objs.size (.tup [.int (i : Nat), x]) :=
      ⟨by show 2 ≤ sizeLine; decide, [.int i tk, u], .cons ⟨_, rfl⟩ (.cons ru .nil), ⟨_, hT2, rfl, _, rfl⟩⟩
    have I1 : Inv X pins σ (upd H s.heap.objs.size (.tup [.int (i : Nat), x])) { s with heap := h'', toks := tk + 1 } :=
      I.turnedNew (ch := [e, it]) (fun b ob hb q => (sb.2 b (fun z => hb (by simp [z]))).trans (hk b ob (fun z => hb (by simp [z])) (fun z => hb (by simp [z])) q)) hf (Nat.le_refl _) new
    refine ⟨.ref s.heap.objs.size, _, I1, rfl, ⟨_, x, rfl, I.hok.fresh (Nat.le_refl _), rfl, hx⟩, ⟨⟨u, ?_⟩, hst.1.at fun o q => (sb.2 it (Ne.symm hne)).trans q, hne, hai, hae⟩, fun b hb => ?_⟩
    · have e1 : ((i + 1 : Nat) : Int) = (i : Int) + 1 := by omega
      rw [e1]; exact he'
    · have hb' : b < s.heap.objs.size := by
        have e' : b = e ∨ b = it := by simpa using hb
        rcases e' with z | z
        · rw [z]; exact hel
        · rw [z]; exact hil
      rw [upd_ne (Nat.ne_of_lt hb')]
      exact (hf b hb).1
  done := by
    intro X hP hw hK hc i pins s σ H E I hf st hg
    subst hP hw hK
    obtain ⟨⟨old, he⟩, hit, hne, hai, hae⟩ := st
    obtain ⟨hq, hi⟩ := hg
    obtain ⟨its, rv, p, hz⟩ := I.tuple hq
    obtain ⟨f0, f1, f2, f3, f4, f5⟩ := hf it (by simp)
    have D := Draws.tuple (prog := X.prog) (w := X.w) (A := X.A.in1) (I.ok.hd hc) it a hai its.toArray
    have hn : its.toArray.size = i := by have := rv.length; simp; omega
    refine wpAny_pyNext_enum_endD D he ?_ fun h' eb => ⟨rfl, I.turned (t' := s.toks) (fun b o hb q => eb b o hb q) f0 f1 f3 f4 f5⟩
    rw [hn]
    exact ⟨hit, p⟩
  self := fun A i s Q E st h => let ⟨⟨_, he⟩, _⟩ := st; wpAny_pyIter_enum he h
def iEnumT (K : PySem.W.Frag) (ta : TA) : TI := fun σ H R => ta σ H fun vs H1 => ∃ a xs, vs = [.ref a] ∧ SqT K H1 a xs ∧ R (Itet K a xs) H1
theorem pi_enumT {X : Cx} {e : Expr} {ta : TA} {p pos tpos : Pos} {elts : List Expr} {kk : Nat} (hg : Gl X "enumerate") (hm : X.mg "enumerate" = none) (ha : PA X [e] ta) (hs : starEach [e] X.env = [(false, eval e X.env)] := by rfl) :
    PI X (.Tuple elts kk tpos) (.Call (.Name "enumerate" p) [e] [] pos) (iEnumT X.K ta) := by
  refine ⟨fun pins s σ H R I h => ?_⟩
  refine Call_ (ld_blt I hg hm boot_enumerate (PyProof.Rows.callWith_type1 (thn (ha.run pos pins s σ H _ I h) fun us s1 ⟨vs, H1, I1, r1, a, xs, ex, hq, q⟩ => ?_) hs rfl))
  subst ex
  obtain ⟨u, rfl, rx⟩ := r1.one
  cases rx
  obtain ⟨its, rv, p', hz⟩ := I1.tuple hq
  have hlt : a < s1.heap.objs.size := p'.lt
  refine call_enum_tup (show s1.heap.IsTuple a its.toArray from p') fun h' he hit hk => wpAny_pyIter_enum he ?_
  have I2 : Inv X pins σ H1 { s1 with heap := h' } := I1.kept (t' := s1.toks) hk
  refine ⟨s1.heap.objs.size + 1, [s1.heap.objs.size + 1, s1.heap.objs.size], _, _, H1, rfl, I2, turn_enumT a (s1.heap.objs.size + 1) s1.heap.objs.size xs, ⟨⟨.none, he⟩, hit, Nat.succ_ne_self _, Nat.ne_of_lt hlt, Nat.ne_of_lt (Nat.lt_succ_of_lt hlt)⟩, fun b hb => ?_, q⟩
  have e' : b = s1.heap.objs.size + 1 ∨ b = s1.heap.objs.size := by simpa using hb
  have hle : s1.heap.objs.size ≤ b := by
    rcases e' with z | z
    · rw [z]; exact Nat.le_add_right _ _
    · rw [z]; exact Nat.le_refl _
  exact I1.fpOk hle (I1.hok.fresh hle)

/-! ### xs.extend(t) -/
theorem meets_extend_tup (l : Addr) (items : Array Value) (n : Nat) (b : Addr) (items2 : Array Value) (n2 : Nat) (dd : Option Addr) (sl : Array (Option Value)) (hs0 : ¬(!items.isEmpty && Builtin.List.listTooLong (items.size + items2.size)) = true) (hs1 : items.size ≤ sizeLine) (hs2 : items.size + items2.size ≤ sizeLine + 1) :
    Meets (Builtin.«list.extend» ⟨[.ref l, .ref b], []⟩) (fun _ R s => s.heap.get? l = some { cls := .type "list", dict := none, data := .seq items n, slots := #[] } ∧ s.heap.get? b = some { cls := .type "tuple", dict := dd, data := .seq items2 n2, slots := sl } ∧
      R (.ok (.ret Value.none)) { s with heap := s.heap.update l (Obj.mapSeq fun x => x ++ items2), toks := s.toks }) :=
  .of_wp fun prog w A R s h => by
    obtain ⟨hp, g, d, tk, os⟩ := s
    obtain ⟨hl, hb, h⟩ := h
    have f1 := AutoSeq1.sub_tuple_tuple
    have f2 := AutoSeq1.sub_list_list
    have f3 := AutoSeq1.sub_tuple_list
    have f4 := AutoSeq1.sub_list_tuple
    have hz' : (items ++ items2).size ≤ sizeLine + 1 := by rw [Array.size_append]; exact hs2
    wp_walk using (wpAny_updateSeq hl rfl (hz := hs1) (_hz' := hz')), AutoSeq1.wpAny_loadPart' hl, AutoSeq1.wpAny_loadPart' hb
    exact ⟨_, rfl, h⟩
section
variable {X : Cx}
def rExtendT (K : PySem.W.Frag) : V → List V → Hp → VK → Prop := fun x vs H Q => ∃ l b xs zs, x = .ref l ∧ vs = [.ref b] ∧ H l = some (.lst xs) ∧ SqT K H b zs ∧ xs.length + zs.length ≤ sizeLine ∧ Q .non (upd H l (.lst (xs ++ zs)))
theorem mt_extendT : MtM X "list.extend" (rExtendT X.K) := by
  intro pins s σ H x vs v us Q I rx rv h
  obtain ⟨l, b, xs, zs, rfl, rfl, hH, hB, hz, q⟩ := h
  cases rx
  obtain ⟨u, rfl, ru⟩ := rv.one
  cases ru
  obtain ⟨z, its, n, r, hl, e⟩ := I.lstM hH
  obtain ⟨its2, r2, ⟨⟨cls, dd, data, sl⟩, ho, hc, n2, hd⟩, hz2⟩ := I.tuple hB
  simp only at hc hd
  subst hc hd
  have hl2 := r2.length
  have hsz : its.toArray.size + its2.toArray.size ≤ sizeLine := by rw [List.size_toArray, List.size_toArray]; omega
  refine call_meets PySem.F.slot_list_extend ⟨_, e, rfl⟩ PySem.F.entry_list_extend (PySem.F.args_list_extend_2 _ _)
    (meets_extend_tup l its.toArray n b its2.toArray n2 dd sl (by rw [notLongL hsz, Bool.and_false]; exact Bool.false_ne_true) (by rw [List.size_toArray]; omega) (by omega)) ⟨e, ho, ?_⟩
  refine ⟨.non, _, I.lset (its' := its ++ its2) hH e (by simp) (r.append r2) ?_, rfl, q⟩
  rw [List.length_append]; exact hz

/-! ### sum of a tuple of ints -/
def rSumT (K : PySem.W.Frag) : List V → Hp → VK → Prop := fun vs H Q => ∃ (a : Addr) (ns : List Int), vs = [V.ref a] ∧ SqT K H a (ns.map V.int) ∧ Q (.int ns.sum) H
theorem cr_sumT (hc : X.calm = true) : CallR X (.builtin "sum") (rSumT X.K) := by
  intro pins s σ H vs us Q I r h
  obtain ⟨a, ns, rfl, hs, q⟩ := h
  obtain ⟨its, rv, hl, _⟩ := I.tuple hs
  rw [Vals.ref1 r]
  have hi := rv.ints
  have hT : s.heap.IsTuple a its.toArray := hl
  have hlt : a < s.heap.objs.size := hl.lt
  refine call_sum_walkG (wpAny_pyIter_tuple hT ?_)
  refine ⟨s.heap.objs.size, _, _, its.toArray.size, _, _, fun i => ns.getD i 0, rfl, Walks.tuple (A := X.A.in1) (I.ok.hd hc) s.heap.objs.size a (Nat.ne_of_lt hlt) its.toArray,
    ⟨⟨_, Heap.get?_push_size _ rfl, rfl, rfl⟩, hT.push _⟩, fun b hb => ?_, fun i v hv => ?_, fun h' tk t' hk => ?_⟩
  · show b < (s.heap.push _).objs.size
    rw [Heap.size_push]
    have e : b = s.heap.objs.size ∨ b = a := by simpa using hb
    rcases e with e | e
    · rw [e]; exact Nat.lt_succ_self _
    · rw [e]; exact Nat.lt_succ_of_lt hlt
  · have hv' : its[i]? = some v := by simpa using hv
    have hlen := hi.length
    have hin : i < ns.length := by have := (List.getElem?_eq_some_iff.mp hv').1; omega
    obtain ⟨t, ht⟩ := hi.get i ns[i] (List.getElem?_eq_getElem hin)
    rw [hv'] at ht
    refine ⟨t, ?_⟩
    rw [Option.some.inj ht]
    show Value.int ns[i] t = Value.int (ns.getD i 0) t
    rw [List.getD_eq_getElem?_getD, List.getElem?_eq_getElem hin]
    rfl
  · have hk' : ∀ b o, s.heap.get? b = some o → h'.get? b = some o := fun b o e => hk b o (by simp; exact Nat.ne_of_lt (Heap.lt_size e)) (Heap.get?_push_of_some _ e)
    have es : preSum (fun i => ns.getD i 0) its.toArray.size = ns.sum := by
      have hlen := hi.length
      have key : ∀ (l : List Int) (n : Nat), n ≤ l.length → preSum (fun i => l.getD i 0) n = (l.take n).sum := by
        intro l n hn
        induction n with
        | zero => rfl
        | succ n ih =>
          rw [List.take_add_one, List.sum_append, ← ih (by omega)]
          have h1 : l[n]? = some (l.getD n 0) := by rw [List.getD_eq_getElem?_getD, List.getElem?_eq_getElem (by omega)]; rfl
          rw [h1]
          show preSum _ n + _ = _ + (List.sum [_])
          simp
      rw [key ns _ (by simp; omega), List.take_of_length_le (by simp; omega)]
    rw [es]
    exact ⟨.int _, H, I.kept (t' := tk) hk', ⟨_, rfl⟩, q⟩
end
end CB
/-! CBLib6 -/
set_option Elab.async false
set_option autoImplicit false
set_option linter.all false
set_option maxRecDepth 100000
set_option maxHeartbeats 2000000
/-! sorted of such data: of a list, of a dict. -/
namespace CB
open PySem PySem.Spec PyProof.Rows L2
open PySem.W (EachIs dataLe AllAlike Sortable SortsAt sortingHeap alike)

/-- Python's order of such data -/
def leN (a b : NestedKey) : Bool := dataLe false NestedKey.data a b
structure SortN (ks : List NestedKey) : Prop where
  like : ∀ k ∈ ks, ∀ k' ∈ ks, alike k.data k'.data = true
  tup : ∀ k ∈ ks, ∃ x r, k = .tup (x :: r)
  depth : NestedKey.depthAll ks ≤ 30
  len : ks.length ≤ sizeLine
theorem SortN.all {ks : List NestedKey} (h : SortN ks) : AllAlike (ks.map NestedKey.data) := by
  intro d hd d' hd'
  obtain ⟨k, hk, rfl⟩ := List.mem_map.mp hd
  obtain ⟨k', hk', rfl⟩ := List.mem_map.mp hd'
  exact h.like k hk k' hk'
theorem SortN.able {ks : List NestedKey} (h : SortN ks) : Sortable (ks.map NestedKey.data) := .inl fun d hd => by
  obtain ⟨k, hk, rfl⟩ := List.mem_map.mp hd
  obtain ⟨x, r, rfl⟩ := h.tup k hk
  exact ⟨x.data, NestedKey.datas r, by simp [NestedKey.data, NestedKey.datas]⟩

section
variable {X : Cx} {pins : List (Addr × Obj)} {σ : L2.St} {H : Hp} {s : Shared}
theorem each_of (I : Inv X pins σ H s) : ∀ {ks : List NestedKey} {xs : List V} {vs : List Value}, KAll H xs ks → Vals xs vs → EachIs (fun v k => ∃ x, RelV x v ∧ KAt H x k) vs ks
  | [], _, _, h, r => by cases h; cases r; exact .nil
  | k :: ks, _, _, h, r => by
    cases h with
    | cons h1 h2 =>
      cases r with
      | cons r1 r2 => exact .cons ⟨_, r1, h1⟩ (each_of I h2 r2)
theorem each_back {H : Hp} : ∀ {vs : List Value} {ks : List NestedKey}, EachIs (fun v k => ∃ x, RelV x v ∧ KAt H x k) vs ks → ∃ xs, Vals xs vs ∧ KAll H xs ks
  | _, _, .nil => ⟨[], .nil, .nil⟩
  | _, _, .cons ⟨x, r, k⟩ t => by
    obtain ⟨xs, r', k'⟩ := each_back t
    exact ⟨x :: xs, .cons r r', .cons k k'⟩
theorem each_reads (I : Inv X pins σ H s) {vs : List Value} {ks : List NestedKey} (e : EachIs (fun v k => ∃ x, RelV x v ∧ KAt H x k) vs ks) : EachIs (fun v k => ∃ as, Reads s.heap v k.data as) vs ks :=
  e.mono fun v k ⟨x, r, h⟩ => Dp.reads I k.data x v (KAt.dp k x h) r

theorem sorted_col {u : Value} {Q : VK} {E : Value → Shared → Prop} {P : List NestedKey → Prop} (hu : X.A.units + 64 < cLine)
    (col : ∀ (E' : Value → Shared → Prop) (Q' : List Value → Shared → Prop), (∀ s1 vs xs ks, Inv X pins σ H s1 → Vals xs vs → KAll H xs ks → P ks → Q' vs s1) → wpAny (model X.prog X.w) X.A.in1 (collect u) Q' E' s)
    (hp : ∀ ks, P ks → SortN ks) (q : ∀ ks, P ks → ∀ p xs', H p = none → KAll H xs' (ks.mergeSort leN) → Q (.ref p) (upd H p (.lst xs'))) :
    wpAny (model X.prog X.w) X.A (call (.builtin "sorted") [u]) (EP X pins σ Q) E s := by
  refine Calls.call_function_entry kind_sorted plain_sorted entry_sorted (args_sorted1 _) ?_
  unfold Builtin.«sorted»
  refine wpAny_bind (m := checkCount "sorted" 1 1 _) (wpAny_pure ?_)
  refine wpAny_bind (col _ _ fun s1 vs xs ks I1 rv ka pk => ?_)
  have sn := hp ks pk
  have e := each_of I1 ka rv
  have hL : vs.length ≤ sizeLine := by rw [e.length]; exact sn.len
  refine wpAny_bind (wpAny_newList ?_ hL)
  have hoL : (s1.heap.push (seqObj "list" vs.toArray 0)).get? s1.heap.objs.size = some (seqObj "list" vs.toArray 0) := Heap.get?_push_size _ rfl
  have old : ∀ b o, s1.heap.get? b = some o → (sortingHeap (s1.heap.push (seqObj "list" vs.toArray 0)) s1.heap.objs.size vs).get? b = some o := fun b o eb =>
    PySem.W.sortingHeap_old (Nat.ne_of_lt (Heap.lt_size eb)) (Heap.get?_push_of_some _ eb)
  have er : EachIs (fun v k => ∃ as, Reads (sortingHeap (s1.heap.push (seqObj "list" vs.toArray 0)) s1.heap.objs.size vs) v k.data as) vs ks :=
    (each_reads I1 e).mono fun v k ⟨as, r⟩ => ⟨as, PyProof.Rows.Reads.keeps old r⟩
  have S := SortsAt.data (prog := X.prog) (w := X.w) (A := X.A.in1.in1) (s := { s1 with heap := sortingHeap (s1.heap.push (seqObj "list" vs.toArray 0)) s1.heap.objs.size vs }) (PySem.W.each_map (R := fun v d => ∃ as, Reads (sortingHeap (s1.heap.push (seqObj "list" vs.toArray 0)) s1.heap.objs.size vs) v d as) NestedKey.data er) sn.all sn.able (fun d hd => by
    obtain ⟨k, hk, rfl⟩ := List.mem_map.mp hd
    rw [depth_data]
    have := depth_le_all hk
    have := sn.depth
    show X.A.units + 1 + 1 + k.depth < cLine
    omega)
  refine wpAny_bind (wpAny_holding (wpAny_call_entry slot_list_sort ⟨_, hoL, rfl⟩ entry_list_sort (PySem.W.list_sort_vals (s := { s1 with heap := s1.heap.push (seqObj "list" vs.toArray 0) }) hoL S hL ⟨_, rfl, ?_⟩) (args_list_sort _)))
  obtain ⟨out, eout⟩ : ∃ out, out = PySem.W.sortVals (PySem.W.dataKind (sortingHeap (s1.heap.push (seqObj "list" vs.toArray 0)) s1.heap.objs.size vs) (ks.map NestedKey.data)) false vs vs := ⟨_, rfl⟩
  have eo : EachIs (fun v k => ∃ x, RelV x v ∧ KAt H x k) out (ks.mergeSort leN) := by
    rw [eout]
    exact PySem.W.sortVals_data false e er sn.all
  obtain ⟨xs', rv', ka'⟩ := each_back eo
  obtain ⟨c, hc⟩ := sortedHeap_at (vs := vs) (out := out.toArray) hoL
  have hn := I1.hok.fresh (Nat.le_refl s1.heap.objs.size)
  refine wpAny_pure ⟨_, rfl, .ref s1.heap.objs.size, _, ?_, rfl, q ks pk _ xs' hn ka'⟩
  rw [← eout]
  refine I1.laid (a := s1.heap.objs.size) (o := .lst xs') (t' := s1.toks) (fun b o eb => ?_) (Nat.le_refl _) ⟨?_, out, c, rv', hc⟩
  · have hb : b < s1.heap.objs.size := Heap.lt_size eb
    rw [sortedHeap_old (Nat.ne_of_lt hb) (by rw [size_push']; exact Nat.lt_succ_of_lt hb)]
    exact Heap.get?_push_of_some _ eb
  · rw [rv'.length, eo.length, List.length_mergeSort]; exact sn.len
end

section
variable {X : Cx}
/-- sorted(xs) -/
def rSortL (K : PySem.W.Frag) : List V → Hp → VK → Prop := fun vs H Q => ∃ (a : Addr) (xs : List V) (ks : List NestedKey), vs = [.ref a] ∧ SqL K H a xs ∧ KAll H xs ks ∧ SortN ks ∧
  ∀ p xs', H p = none → KAll H xs' (ks.mergeSort leN) → Q (.ref p) (upd H p (.lst xs'))
theorem cr_sortL (hu : X.A.units + 64 < cLine) : CallR X (.builtin "sorted") (rSortL X.K) := by
  intro pins s σ H vs us Q I r h
  obtain ⟨a, xs, ks, rfl, hs, ka, sn, q⟩ := h
  rw [Vals.ref1 r]
  obtain ⟨its, rv, hl, _⟩ := I.list hs
  refine sorted_col (P := fun k => k = ks) hu (fun E' Q' hQ => ?_) (fun k hk => hk ▸ sn) (fun k hk => by subst hk; exact q)
  have hL : its.length ≤ sizeLine := by rw [← rv.length, ka.length]; exact sn.len
  refine collect_list hl.isList (hQ _ its xs ks (I.kept (t' := s.toks) fun b o e => ?_) rv ka rfl) hL
  rw [Heap.get?_update_ne _ _ _ _ (Nat.ne_of_lt (Heap.lt_size e))]
  exact Heap.get?_push_of_some _ e
/-- sorted(d) -/
def rSortDN (P : Program) (w : World) : List V → Hp → VK → Prop := fun vs H Q => ∃ (d : Addr) (kvs : List (NestedKey × V)), vs = [.ref d] ∧ DN P w H d kvs ∧ SortN (kvs.map (·.1)) ∧
  ∀ p xs', H p = none → KAll H xs' ((kvs.map (·.1)).mergeSort leN) → Q (.ref p) (upd H p (.lst xs'))
theorem cr_sortDN (hc : X.calm = true) (hu : X.A.units + 64 < cLine) : CallR X (.builtin "sorted") (rSortDN X.prog X.w) := by
  intro pins s σ H vs us Q I r h
  obtain ⟨d, kvs, rfl, ⟨o, hd, dn⟩, sn, q⟩ := h
  rw [Vals.ref1 r]
  have ho : s.heap.get? d = some o := (I.hok d _ hd).1
  obtain ⟨hs, z, es, ep, ks, hx, hdt, he, hn, pr⟩ := dn
  have l1 : es.size = ks.length := size_of_entries he
  have l2 : kvs.length = ks.length := Paired.length pr
  refine sorted_col (P := fun k => k = kvs.map (·.1)) hu (fun E' Q' hQ => ?_) (fun k hk => hk ▸ sn) (fun k hk => by subst hk; exact q)
  refine PySem.W.kdu_collect (A := X.A.in1) (kdl_raw hs hx hdt) (I.ok.hd hc) ho (by omega) fun h' tk acc hk hacc => ?_
  refine hQ { s with heap := h', toks := tk } acc.toList ((ks.map fun x => x.2.1).map V.ref) _ (I.kept hk) ?_ pr.all rfl
  have eb : acc.toList = (ks.map fun x => x.2.1).map Value.ref := by
    rw [List.map_map]
    have hl : acc.toList.length = ks.length := by rw [Array.length_toList, hacc.1, l1]
    refine List.ext_getElem? fun j => ?_
    cases hb : ks[j]? with
    | none =>
      have := List.getElem?_eq_none_iff.mp hb
      rw [List.getElem?_eq_none (by omega), List.getElem?_map, hb]
      rfl
    | some b =>
      have hj : j < acc.toList.length := by rw [hl]; exact (List.getElem?_eq_some_iff.mp hb).1
      have hv := List.getElem?_eq_getElem hj
      obtain ⟨en, hen, hvk⟩ := hacc.2 j _ (by rw [← Array.getElem?_toList]; exact hv)
      have qe := entry_at he j
      rw [hen, hb] at qe
      rw [hv, hvk, Option.some.inj qe, List.getElem?_map, hb]
      rfl
  rw [eb]
  exact vals_refs _
end
end CB
/-! CBLib7 -/
set_option Elab.async false
set_option autoImplicit false
set_option linter.all false
set_option maxRecDepth 100000
set_option maxHeartbeats 2000000
/-! sorted(xs, key=f) where f is a def of the program and its keys need be alike only as far as they agree. -/
namespace CB
open PySem PySem.Spec PyProof.Rows L2
open PySem.W (EachIs dataLe SortsAt alike alikeAll dataLt keyToks keyToksAll KeepsBut sortVals)

/-- comparable as far as they agree -/
def upAll : List PyData → List PyData → Bool
  | x :: xs, y :: ys => alike x y && (!PyData.eqv x y || upAll xs ys)
  | [], _ => true
  | _ :: _, [] => true
theorem up_cons {x y : PyData} {xs ys : List PyData} (h : upAll (x :: xs) (y :: ys) = true) : alike x y = true ∧ (PyData.eqv x y = true → upAll xs ys = true) := by
  rw [upAll, Bool.and_eq_true] at h
  exact ⟨h.1, fun e => by simpa [e] using h.2⟩

section
variable {prog : Program} {w : World} {A : Around} {s : Shared}
theorem katLex_up {b fin : Bool} {Q : Bool → Shared → Prop} : ∀ (xs ys : List PyData) (i : Nat) (vs ws : List Value) (as bs : List Addr), ReadsAll s.heap vs xs as → ReadsAll s.heap ws ys bs → upAll xs ys = true →
    A.units + min (PyData.depthAll xs) (PyData.depthAll ys) < cLine → (b = true → i = 0 → ∀ x r t, xs = x :: r → x ≠ .tuple t) → fin = decide (xs.length < ys.length) → Q (PyProof.Rows.lexLt itemOrd (keyToksAll xs) (keyToksAll ys)) s → PySem.W.KatLex prog w A b fin Q (vs.zip ws) i s
  | [], [], i, _, _, _, _, ra, rb, _, _, _, hf, hq => by
    cases ra
    cases rb
    have e : fin = false := by rw [hf]; rfl
    subst e
    rw [lex_irrefl] at hq
    exact PySem.W.kat_nil hq
  | [], y :: ys, i, _, _, _, _, ra, rb, _, _, _, hf, hq => by
    cases ra
    have e : fin = true := by rw [hf]; exact decide_eq_true (Nat.succ_pos _)
    subst e
    rw [PySem.W.toks_all_cons] at hq
    simp only [keyToksAll] at hq
    rw [lex_diff (O := itemOrd) (by simp)] at hq
    rw [List.zip_nil_left]
    exact PySem.W.kat_nil (by simpa [itemLt] using hq)
  | x :: xs, [], i, _, _, _, _, ra, rb, _, _, _, hf, hq => by
    cases rb
    have e : fin = false := by rw [hf]; exact decide_eq_false (Nat.not_lt_zero _)
    subst e
    rw [PySem.W.toks_all_cons] at hq
    simp only [keyToksAll] at hq
    rw [lex_diff (O := itemOrd) (by simp)] at hq
    rw [List.zip_nil_right]
    exact PySem.W.kat_nil (by simpa [itemLt] using hq)
  | x :: xs, y :: ys, i, _, _, _, _, ra, rb, h, hu, hb, hf, hq => by
    obtain ⟨h1, h2⟩ := up_cons h
    have hf' : fin = decide (xs.length < ys.length) := by
      rw [hf]
      simp only [List.length_cons, Nat.add_lt_add_iff_right]
    cases ra with
    | cons r rs =>
      cases rb with
      | cons r' rs' =>
        rw [List.zip_cons_cons]
        refine PySem.W.kat_cons (PySem.W.eqAt_alike x y A s _ _ _ _ r r' h1 (SeqAt.room_head hu) prog w _ _ ?_)
        cases hx : PyData.eqv x y with
        | true =>
          rw [PySem.W.dataLt_all_yes h1 hx] at hq
          exact PySem.W.kat_yes (katLex_up xs ys (i + 1) _ _ _ _ rs rs' (h2 hx) (SeqAt.room_tail hu) (fun _ hi => absurd hi (Nat.succ_ne_zero i)) hf' hq)
        | false =>
          rw [PySem.W.dataLt_all_no h1 hx] at hq
          refine PySem.W.kat_no (PySem.W.oneLt_alike (fun hbi t => ?_) r r' h1 (PySem.W.ne_none_of h1 hx) (SeqAt.room_head hu) hq)
          rw [Bool.and_eq_true] at hbi
          exact hb hbi.1 (by simpa using hbi.2) x xs t rfl
end

mutual
theorem reads_uniq {h : Heap} : ∀ (k k' : NestedKey) (v : Value) (as as' : List Addr), Reads h v k.data as → Reads h v k'.data as' → k = k'
  | .none, k', _, _, _, r, r' => by
    simp only [NestedKey.data] at r; cases r
    cases k' <;> simp only [NestedKey.data] at r' <;> cases r'
    rfl
  | .num i, k', _, _, _, r, r' => by
    simp only [NestedKey.data] at r; cases r
    cases k' <;> simp only [NestedKey.data] at r' <;> cases r'
    rfl
  | .text x, k', _, _, _, r, r' => by
    simp only [NestedKey.data] at r; cases r
    cases k' <;> simp only [NestedKey.data] at r' <;> cases r'
    rfl
  | .tup ks, k', _, _, _, r, r' => by
    simp only [NestedKey.data] at r
    cases r with
    | tuple h1 h2 h3 h4 =>
      cases k' with
      | none => simp only [NestedKey.data] at r'; cases r'
      | num i => simp only [NestedKey.data] at r'; cases r'
      | text x => simp only [NestedKey.data] at r'; cases r'
      | tup ls =>
        simp only [NestedKey.data] at r'
        cases r' with
        | tuple k1 k2 k3 k4 =>
          rw [h1] at k1; cases k1
          rw [h3] at k3; cases k3
          rw [readsAll_uniq ks ls _ _ _ h4 k4]
theorem readsAll_uniq {h : Heap} : ∀ (ks ls : List NestedKey) (vs : List Value) (as as' : List Addr), ReadsAll h vs (NestedKey.datas ks) as → ReadsAll h vs (NestedKey.datas ls) as' → ks = ls
  | [], [], _, _, _, _, _ => rfl
  | [], _ :: _, _, _, _, r, r' => by
    simp only [NestedKey.datas] at r r'
    cases r; cases r'
  | _ :: _, [], _, _, _, r, r' => by
    simp only [NestedKey.datas] at r r'
    cases r'; cases r
  | k :: ks, l :: ls, _, _, _, r, r' => by
    simp only [NestedKey.datas] at r r'
    cases r with
    | cons h1 h2 =>
      cases r' with
      | cons k1 k2 => rw [reads_uniq k l _ _ _ h1 k1, readsAll_uniq ks ls _ _ _ h2 k2]
end

/-- the kind of keys that the data ks make in the heap h -/
noncomputable def nkKind (h : Heap) (ks : List NestedKey) : PyProof.Rows.KeyKind where
  toKeyOrd := listOrd itemOrd
  keyOf v := open Classical in if q : ∃ k : NestedKey, k ∈ ks ∧ ∃ as, Reads h v k.data as then some (keyToks q.choose.data) else none
  dflt := ([] : List (Int ⊕ List Nat))
theorem nkKind_some {h : Heap} {ks : List NestedKey} {v : Value} {k : NestedKey} {as : List Addr} (hk : k ∈ ks) (r : Reads h v k.data as) : (nkKind h ks).keyOf v = some (keyToks k.data) := by
  have q : ∃ k : NestedKey, k ∈ ks ∧ ∃ as, Reads h v k.data as := ⟨k, hk, as, r⟩
  have e : (nkKind h ks).keyOf v = some (keyToks q.choose.data) := by
    show (open Classical in if q : ∃ k : NestedKey, k ∈ ks ∧ ∃ as, Reads h v k.data as then some (keyToks q.choose.data) else none) = _
    rw [dif_pos q]
  obtain ⟨h1, as', h2⟩ := q.choose_spec
  rw [e, reads_uniq _ _ _ _ _ h2 r]
theorem nkKind_inv {h : Heap} {ks : List NestedKey} {v : Value} {t : List (Int ⊕ List Nat)} (e : (nkKind h ks).keyOf v = some t) : ∃ (k : NestedKey) (as : List Addr), k ∈ ks ∧ Reads h v k.data as ∧ t = keyToks k.data := by
  by_cases q : ∃ k : NestedKey, k ∈ ks ∧ ∃ as, Reads h v k.data as
  · have e' : (nkKind h ks).keyOf v = some (keyToks q.choose.data) := by
      show (open Classical in if q : ∃ k : NestedKey, k ∈ ks ∧ ∃ as, Reads h v k.data as then some (keyToks q.choose.data) else none) = _
      rw [dif_pos q]
    obtain ⟨h1, as', h2⟩ := q.choose_spec
    rw [e'] at e
    exact ⟨_, as', h1, h2, (Option.some.inj e).symm⟩
  · have e' : (nkKind h ks).keyOf v = none := by
      show (open Classical in if q : ∃ k : NestedKey, k ∈ ks ∧ ∃ as, Reads h v k.data as then some (keyToks q.choose.data) else none) = _
      rw [dif_neg q]
      rfl
    rw [e'] at e
    exact absurd e (by simp)

/-- the keys of a sort: tuples, a number first, comparable as far as they agree -/
structure UpN (ks : List NestedKey) : Prop where
  like : ∀ r l, NestedKey.tup r ∈ ks → NestedKey.tup l ∈ ks → upAll (NestedKey.datas r) (NestedKey.datas l) = true
  tup : ∀ k ∈ ks, ∃ i r, k = .tup (.num i :: r)
  depth : ∀ k ∈ ks, k.depth ≤ 20

section
variable {prog : Program} {w : World} {A : Around} {s : Shared}
theorem SortsAt.up {vs : List Value} {ks : List NestedKey} (e : EachIs (fun v (k : NestedKey) => ∃ as, Reads s.heap v k.data as) vs ks) (hk : UpN ks) (hu : A.units + 40 < cLine) : SortsAt prog w A s (nkKind s.heap ks) vs := by
  refine ⟨fun v hv => ?_, ?_⟩
  · obtain ⟨k, hk, as, r⟩ := e.left v hv
    exact ⟨_, nkKind_some hk r⟩
  · refine ⟨tuples' (PySem.W.dataType (.int 0) != Value.type "tuple"), ?_, fun h2 E Q hq => ?_⟩
    · intro E x y a b Q ha hb hq
      obtain ⟨d, as, hd, ra, rfl⟩ := nkKind_inv ha
      obtain ⟨d', as', hd', rb, rfl⟩ := nkKind_inv hb
      have hdep := hk.depth d hd
      obtain ⟨i1, r1, rfl⟩ := hk.tup d hd
      obtain ⟨i2, r2, rfl⟩ := hk.tup d' hd'
      have hup := hk.like _ _ hd hd'
      have hq' : Q (dataLt (NestedKey.tup (.num i1 :: r1)).data (NestedKey.tup (.num i2 :: r2)).data) s := hq
      simp only [NestedKey.data] at ra rb hq'
      rw [PySem.W.dataLt_tuple] at hq'
      cases ra with
      | @tuple l o xs n _ _ h1 h2 h3 h4 =>
        cases rb with
        | @tuple l' o' xs' n' _ _ k1 k2 k3 k4 =>
          have n1 : xs.size = (NestedKey.datas (.num i1 :: r1)).length := by simpa using SeqAt.ReadsAll.length _ _ _ h4
          have n2 : xs'.size = (NestedKey.datas (.num i2 :: r2)).length := by simpa using SeqAt.ReadsAll.length _ _ _ k4
          refine PySem.W.kat_lt h1 h3 k1 k3 (katLex_up _ _ 0 _ _ _ _ h4 k4 hup ?_ (fun hb _ x r t ex => ?_) (by rw [n1, n2]) hq')
          · have dd : PyData.depthAll (NestedKey.datas (.num i1 :: r1)) ≤ 20 := by
              rw [depth_datas]
              simp only [NestedKey.depth] at hdep
              omega
            have := Nat.min_le_left (PyData.depthAll (NestedKey.datas (.num i1 :: r1))) (PyData.depthAll (NestedKey.datas (.num i2 :: r2)))
            omega
          · simp only [NestedKey.datas, NestedKey.data] at ex
            obtain ⟨rfl, rfl⟩ := List.cons.inj ex
            intro z; cases z
    · have er : EachIs (fun v d => ∃ as, Reads s.heap v d as) vs (ks.map NestedKey.data) := PySem.W.each_map (R := fun v d => ∃ as, Reads s.heap v d as) NestedKey.data e
      obtain ⟨fs, t1, t2, t3⟩ := PySem.W.each_katTups er fun d hd => by
        obtain ⟨k, hk', rfl⟩ := List.mem_map.mp hd
        obtain ⟨i, r, rfl⟩ := hk.tup k hk'
        exact ⟨.int i, NestedKey.datas r, by simp [NestedKey.data, NestedKey.datas]⟩
      refine PySem.W.kat_kind (T := PySem.W.dataType (.int 0)) t1 (by omega) (fun f hf => ?_) (beq_self_eq_true _) hq
      obtain ⟨x, r, as, m1, m2⟩ := t3 f hf
      obtain ⟨k, hk', ek⟩ := List.mem_map.mp m1
      obtain ⟨i, r', rfl⟩ := hk.tup k hk'
      simp only [NestedKey.data, NestedKey.datas] at ek
      injection ek with ek
      obtain ⟨rfl, _⟩ := List.cons.inj ek
      exact PySem.W.looks_reads (d := .int i) m2
end

/-- the order of the keys -/
def leR (rk : NestedKey → NestedKey) (a b : NestedKey) : Bool := dataLe false (fun k => (rk k).data) a b

section
variable {X : Cx} {pins : List (Addr × Obj)} {σ : L2.St} {H : Hp} {s : Shared} {k : Nat} {f : Addr} {fd : FuncData} {ps : List Str} {sp : Sp}
/-- what f promises: the key of an item -/
def RankSp (sp : Sp) (rk : NestedKey → NestedKey) (ks : List NestedKey) : Prop := ∀ (x : V) (k : NestedKey) (H : Hp) (Q : VK) (E : XK), k ∈ ks → KAt H x k → (∀ v H', Same H H' → KAt H' v (rk k) → Q v H') → sp [x] H Q E

theorem same_kall {H H' : Hp} (e : Same H H') {vs : List V} {ks : List NestedKey} (h : KAll H vs ks) : KAll H' vs ks := h.mono e
theorem kall_snoc {H : Hp} {vs : List V} {ks : List NestedKey} {v : V} {k : NestedKey} (h : KAll H vs ks) (h' : KAt H v k) : KAll H (vs ++ [v]) (ks ++ [k]) := h.append (.cons h' .nil)
theorem vals_snoc {xs : List V} {us : List Value} {x : V} {u : Value} (h : Vals xs us) (h' : RelV x u) : Vals (xs ++ [x]) (us ++ [u]) := h.append (.cons h' .nil)
theorem kall_each {H : Hp} : ∀ {ks : List NestedKey} {xs : List V} {us : List Value}, KAll H xs ks → Vals xs us → EachIs (fun v k => ∃ x, RelV x v ∧ KAt H x k) us ks
  | [], _, _, h, r => by cases h; cases r; exact .nil
  | k :: ks, _, _, h, r => by
    cases h with
    | cons h1 h2 =>
      cases r with
      | cons r1 r2 => exact .cons ⟨_, r1, h1⟩ (kall_each h2 r2)

def lObj (xs : Array Value) (n : Nat) : Obj := seqObj "list" xs n

/-- the call of the key -/
theorem call_rank {rk : NestedKey → NestedKey} {ks : List NestedKey} (F : FnOk X.prog X.w X.K X.mg X.base CX0 k f fd ps sp) (hr : Room (k + 2) X.A) (hb : Binds X.K fd ps []) (hsp : RankSp sp rk ks) (I : Inv X pins σ H s) {x : V} {u : Value} {n : NestedKey} (hn : n ∈ ks) (hx : KAt H x n) (rx : RelV x u)
    {Q : Value → Shared → Prop} {E' : Value → Shared → Prop} (q : ∀ v' s' v H', Inv X pins σ H' s' → Same H H' → RelV v v' → KAt H' v (rk n) → Q v' s') :
    wpAny (model X.prog X.w) X.A.in1.in1 (call (.ref f) [u]) Q E' s := by
  have r2 : Vals [x] [u] := .cons rx .nil
  have h := hsp x n H (fun v H' => Same H H' ∧ KAt H' v (rk n)) (fun _ _ _ => False) hn hx fun v H' e hv => ⟨e, hv⟩
  have hl : ([u] ++ ([] : List Value)).length = ps.length := by
    have := F.len _ _ _ _ h
    simpa using this
  refine wpAny_call (codeAny_mono (F.run X.A.in1.in1 X.stack s H ⟨[u], []⟩ [u] [x] (fun v H' => Same H H' ∧ KAt H' v (rk n)) (fun _ _ _ => False) hr.in1.in1 I.env0.in1.in1 (by simpa using hb s [u] I.kIn hl) r2 h) fun r s' hq => ?_)
  cases r with
  | error e => exact False.elim hq
  | ok fl =>
    cases fl with
    | ret u =>
      obtain ⟨v, H', I', rv, e, hv⟩ := I.after hq
      exact q u s' v H' I' e rv hv
    | next => exact False.elim hq
    | brk => exact False.elim hq
    | cont => exact False.elim hq

theorem exO_put (I : Inv X pins σ H s) {a : Addr} {h' : Heap} {o o' : Obj} (hd : H a = some (exO a o)) (sb : Heap.SameBut a s.heap h') (he : h'.get? a = some o') : Inv X pins σ (upd H a (exO a o')) { s with heap := h' } :=
  dn_put (tk := s.toks) I hd sb he

/-- behind the sort: the list stands, the keys' own list is forgotten -/
theorem sort_done {s0 : Shared} {H0 : Hp} {a kS : Addr} {oa ok : Obj} {h' : Heap} {tk : Nat} {xs : List V} {out : List Value} {c : Nat} (I : Inv X pins σ H s) (fk : FpOk X pins H0 kS) (ha : H a = some (exO a oa)) (hk : H kS = some (exO kS ok)) (hka : kS ≠ a)
    (kp : ∀ b o, b ≠ a → b ≠ kS → s.heap.get? b = some o → h'.get? b = some o) (hA : h'.get? a = some (seqObj "list" out.toArray c)) (rv : Vals xs out) (hz : xs.length ≤ sizeLine) :
    Inv X pins σ (fun b => if b = a then some (.lst xs) else if b = kS then none else H b) { s with heap := h', toks := tk } := by
  obtain ⟨_, f1, f2, f3, f4, f5⟩ := fk
  have nt : ∀ (b : Addr) (o : HO), H b = some o → (∀ φ, o ≠ .ext φ) → b ≠ a ∧ b ≠ kS := fun b o e n =>
    ⟨fun z => (by rw [z, ha] at e; exact n _ (Option.some.inj e).symm), fun z => (by rw [z, hk] at e; exact n _ (Option.some.inj e).symm)⟩
  have nn : ∀ b, H b = none → b ≠ a ∧ b ≠ kS := fun b e => ⟨fun z => (by rw [z, ha] at e; cases e), fun z => (by rw [z, hk] at e; cases e)⟩
  have out_ : ∀ b, b ≠ a → b ≠ kS → (if b = a then some (.lst xs) else if b = kS then none else H b) = H b := fun b h1 h2 => by rw [if_neg h1, if_neg h2]
  have hL : X.env.locals ≠ a ∧ X.env.locals ≠ kS := nn _ I.free
  refine I.step (g' := s.gens) (d' := s.drawn) (ch := [kS]) (fun b hb => ?_) (fun b o _ _ _ e n => kp b o (nn b n).1 (nn b n).2 e) (fun b o _ _ _ e n => ⟨o.slots, kp b o (nn b n).1 (nn b n).2 e⟩) (fun b o _ e n => ?_)
    (fun b o hc e => ?_) (fun b ys e => ?_) (fun b o u e => ?_) (fun b ps e => ?_) (fun m hm => ?_) (fun b u e => ?_) I.bare
  · have e : b = kS := by simpa using hb
    subst e
    exact ⟨f3, f1, f4, f5⟩
  · show (if b = a then some (.lst xs) else if b = kS then none else H b) = none
    rw [out_ b (nn b n).1 (nn b n).2]; exact n
  · by_cases z : b = a
    · subst z; exact ⟨_, hA⟩
    · exact ⟨o, kp b o z (by simpa using hc) e⟩
  · obtain ⟨h1, h2⟩ := nt b _ e fun φ z => by cases z
    show (if b = a then some (.lst xs) else if b = kS then none else H b) = _
    rw [out_ b h1 h2]; exact e
  · obtain ⟨h1, h2⟩ := nt b _ e fun φ z => by cases z
    show (if b = a then some (.lst xs) else if b = kS then none else H b) = _
    rw [out_ b h1 h2]; exact e
  · obtain ⟨h1, h2⟩ := nt b _ e fun φ z => by cases z
    refine ⟨#[], ?_⟩
    show (if b = a then some (.lst xs) else if b = kS then none else H b) = _
    rw [out_ b h1 h2, e]; simp
  · obtain ⟨o, es, ep, ho, r⟩ := hm
    exact ⟨o, es, ep, kp _ o hL.1 hL.2 ho, r⟩
  · by_cases z : b = a
    · subst z
      have e' : some (HO.lst xs) = some u := by simpa using e
      cases e'
      exact ⟨hz, out, c, rv, hA⟩
    · by_cases z2 : b = kS
      · subst z2
        have e' : (none : Option HO) = some u := by simpa [z] using e
        cases e'
      · have e' : H b = some u := by simpa [z, z2] using e
        refine (I.hok b u e').stay (fun c v hc q => ?_) (fun d q => ?_) fun d ys q => ?_
        · rcases hc with hc | hc
          · rw [hc] at q ⊢; exact kp b v z z2 q
          · obtain ⟨h1, h2⟩ := nt c _ hc fun φ z => by cases z
            exact kp c v h1 h2 q
        · obtain ⟨h1, h2⟩ := nt d _ q fun φ z => by cases z
          rw [out_ d h1 h2]; exact q
        · obtain ⟨h1, h2⟩ := nt d _ q fun φ z => by cases z
          rw [out_ d h1 h2]; exact q

/-- sorted(xs, key=f) -/
def rSortRk (K : PySem.W.Frag) (f : Addr) (rk : NestedKey → NestedKey) : List V → List V → Hp → VK → Prop := fun vs zs H Q => ∃ (a : Addr) (xs : List V) (ks : List NestedKey), vs = [.ref a] ∧ zs = [.ref f] ∧ SqL K H a xs ∧ KAll H xs ks ∧ UpN (ks.map rk) ∧
  ∀ p xs' H', Same H H' → H p = none → H' p = some (.lst xs') → KAll H' xs' (ks.mergeSort (leR rk)) → Q (.ref p) H'
theorem cr_sortRk {rk : NestedKey → NestedKey} (F : FnOk X.prog X.w X.K X.mg X.base CX0 k f fd ps sp) (hr : Room (k + 2) X.A) (hb : Binds X.K fd ps []) (hsp : ∀ ks, UpN (ks.map rk) → RankSp sp rk ks) : CallRK X (.builtin "sorted") [Str.ofString "key"] (rSortRk X.K f rk) := by
  intro pins s σ H vs zs us ws Q I r rz h
  obtain ⟨l, xs, ks, rfl, rfl, hs, ka, un, q⟩ := h
  obtain rfl := Vals.ref1 r
  obtain ⟨w1, rfl, e1⟩ := vals1 rz
  obtain rfl : w1 = Value.ref f := e1
  have hsp := hsp ks un
  obtain ⟨its, rv, hl, hz⟩ := I.list hs
  have hzi : its.length ≤ sizeLine := by rw [← rv.length]; exact hz
  have hlk : its.length = ks.length := by rw [← rv.length, ka.length]
  refine PySem.W.sorted_of_sort hl.isList hzi (ksk_s1 _ _) (fun _ => ksk_l1 _ _) fun E' => ?_
  rw [show ([Str.ofString "key"].zip [Value.ref f]) = [(Str.ofString "key", Value.ref f)] from rfl, ksk_t1]
  obtain ⟨a, ea⟩ : ∃ a, a = s.heap.objs.size + 1 := ⟨_, rfl⟩
  rw [← ea]
  have ho : (PySem.W.copyHeap s.heap its).get? a = some (seqObj "list" its.toArray 0) := by rw [ea]; exact PySem.W.copyHeap_at s.heap its
  have ha : a < (PySem.W.copyHeap s.heap its).objs.size := Heap.lt_size ho
  obtain ⟨e1, ho1⟩ : ∃ e1, ((PySem.W.copyHeap s.heap its).update a (Obj.mapSeq fun _ => (#[] : Array Value))).get? a = some (seqObj "list" #[] e1) := ⟨_, get?_update_seq ho fun _ => #[]⟩
  obtain ⟨hA, ehA⟩ : ∃ hA, hA = ((PySem.W.copyHeap s.heap its).update a (Obj.mapSeq fun _ => (#[] : Array Value))).push (seqObj "tuple" its.toArray 0) := ⟨_, rfl⟩
  have hAa : hA.get? a = some (seqObj "list" #[] e1) := by rw [ehA]; exact Heap.get?_push_of_some _ ho1
  have kA : ∀ b o, s.heap.get? b = some o → hA.get? b = some o := fun b o e => by
    have hlt := Heap.lt_size e
    rw [ehA]
    refine Heap.get?_push_of_some _ ?_
    rw [Heap.get?_update_ne _ _ _ _ (by rw [ea]; exact Nat.ne_of_lt (Nat.lt_succ_of_lt hlt))]
    exact PySem.W.copyHeap_old e
  have hna : H a = none := I.hok.fresh (by rw [ea]; exact Nat.le_succ _)
  have IA : Inv X pins σ (upd H a (exO a (seqObj "list" #[] e1))) { s with heap := hA, toks := s.toks } := I.laid kA (by rw [ea]; exact Nat.le_succ _) (ext_ok hAa)
  obtain ⟨kS, ekS⟩ : ∃ kS, kS = hA.objs.size := ⟨_, rfl⟩
  have hka : kS ≠ a := by rw [ekS]; exact Nat.ne_of_gt (Heap.lt_size hAa)
  have hnk' : (upd H a (exO a (seqObj "list" #[] e1))) kS = none := IA.hok.fresh (Nat.le_of_eq ekS.symm)
  have hnk : H kS = none := by rw [upd_ne hka] at hnk'; exact hnk'
  have szk : s.heap.objs.size ≤ kS := by
    rw [ekS]
    have hlt := Heap.lt_size hAa
    rw [ea] at hlt
    exact Nat.le_of_lt (Nat.lt_of_succ_lt hlt)
  have fk : FpOk X pins H kS := I.fpOk szk hnk
  have IB : Inv X pins σ (upd (upd H a (exO a (seqObj "list" #[] e1))) kS (exO kS (seqObj "list" #[] 0))) { s with heap := hA.push (seqObj "list" #[] 0), toks := s.toks } :=
    IA.laid (fun b o e => Heap.get?_push_of_some _ e) (Nat.le_of_eq ekS.symm) (ext_ok (by rw [ekS]; exact Heap.get?_push_size _ rfl))
  unfold ksk_tree
  refine wpAny_bind (listItems_at ho rfl ?_)
  refine wpAny_bind (listUpdate_at ho rfl ?_ (by rw [List.size_toArray]; exact hzi) (Nat.zero_le _))
  refine wpAny_bind (seqEpoch_at ho1 rfl ?_)
  refine wpAny_bind (wpAny_newTuple ?_ (by show its.length ≤ _; exact hzi))
  refine wpAny_bind (wpAny_newList ?_ (Nat.zero_le _))
  refine wpAny_holding ?_
  have esz : (((PySem.W.copyHeap s.heap its).update a (Obj.mapSeq fun _ => (#[] : Array Value))).push (seqObj "tuple" its.toArray 0)).objs.size = kS := by rw [ekS, ehA]
  show wpAny _ _ (ksk_rest a (.ref f) false its.toArray e1 (.ref ((((PySem.W.copyHeap s.heap its).update a (Obj.mapSeq fun _ => (#[] : Array Value))).push (seqObj "tuple" its.toArray 0)).objs.size))) _ _ { s with heap := (((PySem.W.copyHeap s.heap its).update a (Obj.mapSeq fun _ => (#[] : Array Value))).push (seqObj "tuple" its.toArray 0)).push (seqObj "list" #[] 0) }
  rw [esz, ← ehA]
  unfold ksk_rest
  refine wpAny_bind (wpAny_rule ?_)
  first
    | rw [List.forIn_toArray]
    | (rw [← Array.forIn_toList]; simp only [List.toList_toArray])
    | rw [← Array.forIn_toList]
  have H2a : (upd (upd H a (exO a (seqObj "list" #[] e1))) kS (exO kS (seqObj "list" #[] 0))) a = some (exO a (seqObj "list" #[] e1)) := by rw [upd_ne (Ne.symm hka), upd_same]
  have ne0 : ∀ b o, H b = some o → b ≠ a ∧ b ≠ kS := fun b o e => ⟨ne_of_none e hna, ne_of_none e hnk⟩
  refine wpAny_bind (ksk_fold (fun i s' => ∃ H' kA e xk, Inv X pins σ H' s' ∧ Same H H' ∧ H' a = some (exO a (seqObj "list" #[] e1)) ∧ H' kS = some (exO kS (seqObj "list" kA e)) ∧ Vals xk kA.toList ∧ KAll H' xk ((ks.take i).map rk)) its 0 _
    ⟨_, #[], 0, [], IB, fun b o e => by rw [upd_ne (ne0 b o e).2, upd_ne (ne0 b o e).1]; exact e, H2a, upd_same, .nil, by rw [List.take_zero]; exact .nil⟩ ?step ?done)
  case step =>
    rintro j u s' hx ⟨H', kA, e, xk, I', sm, ha', hk', rk', kk'⟩
    simp only [Nat.zero_add] at kk' ⊢
    have hj : j < its.length := (List.getElem?_eq_some_iff.mp hx).1
    obtain ⟨n, hn⟩ : ∃ n, ks[j]? = some n := ⟨_, List.getElem?_eq_getElem (by omega)⟩
    obtain ⟨x, hx', kx⟩ := ka.get hn
    have rx : RelV x u := by
      obtain ⟨u', hu', r'⟩ := rv.get hx'
      rw [hx] at hu'; cases hu'; exact r'
    have hzk : kA.size ≤ its.length := by
      have h1 : xk.length = kA.size := by rw [Vals.length rk', Array.length_toList]
      have h2 : xk.length = min j ks.length := by rw [kk'.length, List.length_map, List.length_take]
      omega
    refine wpAny_bind (wpAny_attempt (call_rank F hr hb hsp I' (List.mem_of_getElem? hn) (kx.mono sm) rx fun v' s2 v H2 I2 sm2 rv2 kv2 => ?_))
    dsimp only
    have nk2 : s2.heap.get? kS = some (seqObj "list" kA e) := (I2.hok kS _ (sm2 _ _ hk')).1
    have s1 := Heap.SameBut.update s2.heap kS (Obj.mapSeq (·.push v'))
    obtain ⟨c2, hc2⟩ : ∃ c2, (s2.heap.update kS (Obj.mapSeq (·.push v'))).get? kS = some (seqObj "list" (kA.push v') c2) := ⟨_, get?_update_seq nk2 (·.push v')⟩
    refine wpAny_bind (listUpdate_at nk2 rfl ?_ (Nat.le_trans hzk hzi) (Nat.le_trans (Nat.le_of_eq (Array.size_push ..)) (Nat.succ_le_succ (Nat.le_trans hzk hzi))))
    refine wpAny_pure ⟨rfl, _, kA.push v', c2, xk ++ [v], exO_put I2 (sm2 _ _ hk') s1 hc2, fun b o e => ?_, ?_, upd_same, ?_, ?_⟩
    · rw [upd_ne (ne0 b o e).2]; exact sm2 _ _ (sm _ _ e)
    · rw [upd_ne (Ne.symm hka)]; exact sm2 _ _ ha'
    · have ea2 : (kA.push v').toList = kA.toList ++ [v'] := by simp
      rw [ea2]; exact vals_snoc rk' rv2
    · have ek : ks.take (j + 1) = ks.take j ++ [n] := by rw [List.take_add_one, hn]; simp
      rw [ek, List.map_append]
      exact KAll.keep (tupLe_upd (sm2 _ _ hk')) _ _ (kall_snoc (kk'.mono sm2) kv2)
  case done =>
    rintro s' ⟨H', kA, e, xk, I', sm, ha', hk', rk', kk'⟩
    have e3 : ks.take (0 + its.length) = ks := List.take_of_length_le (by omega)
    rw [e3] at kk'
    have hsz : kA.size = its.length := by
      have h1 : xk.length = kA.size := by rw [Vals.length rk', Array.length_toList]
      have h2 : xk.length = ks.length := by rw [kk'.length, List.length_map]
      omega
    have nk : s'.heap.get? kS = some (seqObj "list" kA e) := (I'.hok kS _ hk').1
    have na : s'.heap.get? a = some (seqObj "list" #[] e1) := (I'.hok a _ ha').1
    refine wpAny_bind (listItems_at nk rfl ?_)
    have er : EachIs (fun v (k : NestedKey) => ∃ as, Reads s'.heap v k.data as) kA.toList (ks.map rk) := (kall_each kk' rk').mono fun v k ⟨x, r, h⟩ => Dp.reads I' k.data x v (KAt.dp k x h) r
    have hun : X.A.in1.in1.units + 40 < cLine := by have := hr.un; show X.A.units + 1 + 1 + 40 < _; omega
    refine PySem.W.keyH_end (κ := nkKind s'.heap (ks.map rk)) (vs := its) (h₁ := PySem.W.hideAll s'.heap [kS]) (fun b o _ e => PySem.W.of_hideAll _ e) (PySem.W.hideAll_none _ (List.mem_singleton.mpr rfl)) nk na hka
      (SortsAt.up er un hun) hsz hzi fun h' tk c kp hA' => ⟨rfl, ?_⟩
    have eo : EachIs (fun v k => ∃ x, RelV x v ∧ KAt H' x k) (sortVals (nkKind s'.heap (ks.map rk)) false kA.toList its) (ks.mergeSort (leR rk)) :=
      PySem.W.sortVals_each (κ := nkKind s'.heap (ks.map rk)) (fun b => keyToks (rk b).data) (kall_each (ka.mono sm) rv)
        (PySem.W.each_of_map rk ((PySem.W.each_mem er).mono fun v k ⟨⟨as, r⟩, hk⟩ => nkKind_some hk r))
    obtain ⟨xs', rv', ka'⟩ := each_back eo
    have hl' : xs'.length ≤ sizeLine := by rw [ka'.length, List.length_mergeSort, ← hlk]; exact hzi
    have ID := sort_done (tk := tk) (s0 := s) (H0 := H) I' fk ha' hk' hka (fun b o h1 h2 e => kp b o h1 (PySem.W.hideAll_get _ e (by simpa using h2))) hA' rv' hl'
    refine ⟨.ref a, _, ID, rfl, q a xs' _ (fun b o e => ?_) hna ?_ ?_⟩
    · obtain ⟨h1, h2⟩ := ne0 b o e
      show (if b = a then some (.lst xs') else if b = kS then none else H' b) = _
      rw [if_neg h1, if_neg h2]; exact sm _ _ e
    · show (if a = a then some (.lst xs') else if a = kS then none else H' a) = _
      rw [if_pos rfl]
    · refine KAll.keep (fun b ys e => ?_) _ _ ka'
      have h1 : b ≠ a := fun z => by rw [z, ha'] at e; cases e
      have h2 : b ≠ kS := fun z => by rw [z, hk'] at e; cases e
      show (if b = a then some (.lst xs') else if b = kS then none else H' b) = _
      rw [if_neg h1, if_neg h2]; exact e
end
end CB
/-! CBLib8 -/
set_option Elab.async false
set_option autoImplicit false
set_option linter.all false
set_option maxRecDepth 100000
set_option maxHeartbeats 3200000
/-! Sets of things that are told by their address (tuples of texts): made of a list, sorted. -/
namespace CB
open PySem PySem.Spec PyProof.Rows L2

section
variable {P : Program} {w : World} {κ : Type} [DecidableEq κ]

/-- what a set asks of its items more than a dict asks of its keys -/
structure Mild (knd : HeapKind P w κ) : Prop where
  cls : ∀ {A : Around} {E : Value → Shared → Prop} {s : Shared} {k : κ} {a : Addr} {Q : Bool → Shared → Prop}, knd.is s.heap k a → Q false s → wpAny (model P w) A (ofAClassStatement 8 (.ref a)) Q E s
  val : ∀ {A : Around} {E : Value → Shared → Prop} {s : Shared} {k : κ} {a : Addr} {Q : Bool → Shared → Prop}, knd.is s.heap k a → (∀ b, Q b s) → wpAny (model P w) A (hashByValue 8 (.ref a)) Q E s
  seq : ∀ {h : Heap} {k : κ} {a : Addr}, knd.is h k a → ∃ o vs n, h.get? a = some o ∧ o.data = .seq vs n
  stay : ∀ {h h' : Heap} {k : κ} {a : Addr}, knd.is h k a → (∀ o, h.get? a = some o → h'.get? a = some o) → knd.is h' k a

variable (knd : HeapKind P w κ)
/-- an item's row -/
def hrow (p : Addr × κ) : Int × Value := (knd.hash p.2, .ref p.1)
structure Hset (h : Heap) (a : Addr) (L : List (Addr × κ)) (es : Array (Int × Value)) (ep : Nat) (t : SetTable) : Prop where
  obj : ∃ o, h.get? a = some o ∧ o.ExactSet ∧ o.data = .set es ep t
  rows : es.toList = L.map (hrow knd)
  tab : TabOk t (L.map fun p => knd.hash p.2)
  nd : (L.map (·.2)).Nodup
  its : ∀ p ∈ L, knd.is h p.2 p.1
  led : w.params.followText "set-order" = true ∨ t.led = true
  free : L.length * 5 < t.mask * 3
  few : L.length < 64
variable {knd}
variable {A : Around} {E : Value → Shared → Prop} {s : Shared} {a : Addr} {L : List (Addr × κ)} {es : Array (Int × Value)} {ep : Nat} {t : SetTable}

theorem rows_size (r : es.toList = L.map (hrow knd)) : es.size = L.length := by rw [← Array.length_toList, r, List.length_map]
theorem rows_get (r : es.toList = L.map (hrow knd)) {i : Nat} {p : Addr × κ} (h : L[i]? = some p) : es[i]? = some (hrow knd p) := by
  rw [← Array.getElem?_toList, r, List.getElem?_map, h]; rfl
theorem fits_of (T : TabOk t (L.map fun p => knd.hash p.2)) (r : es.toList = L.map (hrow knd)) (h : L.length ≤ t.mask) : t.fits es.size = true := by
  have h1 := T.sz
  have h2 := rows_size r
  rw [List.length_map] at h1
  simp only [SetTable.fits, SetTable.fill, T.dm, Bool.and_eq_true, beq_iff_eq, decide_eq_true_eq]
  refine ⟨by omega, ?_⟩
  show t.place.size + 0 ≤ _
  omega
theorem Hset.fits (R : Hset knd s.heap a L es ep t) : t.fits es.size = true := fits_of R.tab R.rows (by have := R.free; omega)

theorem quiet_search (M : Mild knd) {x : Addr} {k : κ} (hx : knd.is s.heap k x) {Q : Bool → Shared → Prop} : ∀ (ys : List Value), (∀ y ∈ ys, ∃ j c, y = Value.ref c ∧ knd.is s.heap j c) → Q false s → wpAny (model P w) A (searchCouldBeSeen (.ref x) ys) Q E s := by
  intro ys hy q
  unfold searchCouldBeSeen
  refine wpAny_bind (wpAny_forIn_list _ (fun left r s' => (r.1 = none ∧ s' = s) ∧ ∀ y ∈ left, ∃ j c, y = Value.ref c ∧ knd.is s.heap j c) _ ?_ ?_ _ _ ⟨⟨rfl, rfl⟩, hy⟩)
  · rintro y left r s' ⟨⟨_, rfl⟩, hall⟩
    obtain ⟨j, c, rfl, hc⟩ := hall y List.mem_cons_self
    have more := fun u (hu : u ∈ left) => hall u (List.mem_cons_of_mem _ hu)
    dsimp only
    cases hv : (x == c || (carriedByValue (.ref x) && carriedByValue (.ref c))) with
    | true => exact wp_if_pos rfl (wpAny_pure ⟨⟨rfl, rfl⟩, more⟩)
    | false =>
      refine wp_if_neg Bool.false_ne_true (wpAny_bind (knd.quiet hx ?_))
      simp only [Bool.not_true, Bool.false_eq_true, if_false]
      refine wpAny_bind (knd.quiet hc ?_)
      simp only [Bool.not_true, Bool.false_eq_true, if_false]
      refine wpAny_bind (M.cls hx ?_)
      simp only [Bool.false_eq_true, if_false]
      refine wpAny_bind (M.cls hc ?_)
      simp only [Bool.false_eq_true, if_false]
      exact wpAny_pure ⟨⟨rfl, rfl⟩, more⟩
  · rintro ⟨r1, r2⟩ s' ⟨⟨e, rfl⟩, _⟩
    have e' : r1 = none := e
    subst e'
    exact wpAny_pure q

/-- the c-th probe for a hash -/
abbrev pr (m : Nat) (h : Int) (c : Nat) : SetTable.Probe := nth m (runAt m (SetTable.bits h % (m + 1)) (SetTable.bits h)) c
theorem pr_plain (m : Nat) (h : Int) (c : Nat) : (pr m h c).dummy = none := by
  have go : ∀ (n : Nat) (p : SetTable.Probe), p.dummy = none → (nth m p n).dummy = none := by
    intro n
    induction n with
    | zero => exact fun _ z => z
    | succ n ih =>
      intro p z
      apply ih (adv m p)
      unfold adv
      split <;> exact z
  exact go c _ rfl
theorem pr_on (m : Nat) (h : Int) (c d : Nat) : nth m (pr m h c) d = pr m h (c + d) := (nth_add m c _ d).symm

/-- the search from the c-th probe on; K is the first free slot on the way -/
theorem hunt (M : Mild knd) (R : Hset knd s.heap a L es ep t) {x : Addr} {k : κ} (hx : knd.is s.heap k x) (hr : knd.room A) {K : Nat} (b1 : K < 10 * SetTable.turns t.mask) (b2 : way t.mask (knd.hash k) K ∉ t.place.toList)
    (b3 : ∀ c, c < K → way t.mask (knd.hash k) c ∈ t.place.toList) {Q : SetFound → Shared → Prop} (yes : k ∈ L.map (·.2) → Q (.there none) s) (no : k ∉ L.map (·.2) → Q (.free (way t.mask (knd.hash k) K) false) s) :
    ∀ (n c : Nat) (st : Option SetTable.Probe), st.getD (t.probeStart (knd.hash k)) = pr t.mask (knd.hash k) c → c ≤ K → K - c < n →
      (∀ (i : Nat) p, L[i]? = some p → p.2 = k → ∃ d, c ≤ d ∧ d < K ∧ t.place.toList[i]? = some (way t.mask (knd.hash k) d)) → wpAny (model P w) A (setSearchFrom a (.ref x) (knd.hash k) true n st) Q E s := by
  obtain ⟨o, ho, hex, hd⟩ := R.obj
  have odd : ¬ t.gaveWay = true := by unfold SetTable.gaveWay; rw [mask_odd R.tab.mok]; decide
  have hash_at : ∀ (i : Nat) p, L[i]? = some p → (es[i]?.map (·.1)).getD 0 = knd.hash p.2 := fun i p hp => by rw [rows_get R.rows hp]; rfl
  intro n
  induction n with
  | zero => exact fun c st _ _ z => absurd z (Nat.not_lt_zero _)
  | succ n ih =>
    intro c st hst hc hn left
    rw [setSearchFrom_succ]
    refine wpAny_bind (wpAny_setState_of ho hd R.fits ?_)
    dsimp only
    refine wp_if_neg odd ?_
    try refine wpAny_bind (wpAny_pure ?_)
    have jj : ∀ d, (nth t.mask (pr t.mask (knd.hash k) c) d).j = way t.mask (knd.hash k) (c + d) := fun d => congrArg SetTable.Probe.j (pr_on _ _ c d)
    have meet := go_spec t R.tab.ris R.tab.dm (fun i => (es[i]?.map (·.1)).getD 0) (knd.hash k) (10 * SetTable.turns t.mask) (K - c) (pr t.mask (knd.hash k) c) (pr_plain _ _ _) (by omega)
      (fun d hd' => by rw [jj]; exact b3 _ (by omega)) (by rw [jj, Nat.add_sub_cancel' hc]; exact b2)
    rcases meet with ⟨d, i, hd1, hi, hh, before, found⟩ | ⟨before, found⟩
    · have e : t.probe (fun i => (es[i]?.map (·.1)).getD 0) (knd.hash k) (st.getD (t.probeStart (knd.hash k))) = some (.candidate (way t.mask (knd.hash k) (c + d)) i (pr t.mask (knd.hash k) (c + (d + 1)))) := by
        rw [hst, ← jj, ← pr_on]; exact found
      rw [e]
      dsimp only
      rw [jj] at hi
      have il : i < L.length := by
        have h1 := (List.getElem?_eq_some_iff.mp hi).1
        have h2 := R.tab.sz
        rw [List.length_map] at h2
        rw [Array.length_toList] at h1
        omega
      obtain ⟨p, hp⟩ : ∃ p, L[i]? = some p := ⟨_, List.getElem?_eq_getElem il⟩
      have pm := List.mem_of_getElem? hp
      have tail : wpAny (model P w) A (searchRest a (.ref x) (knd.hash k) true n es t (way t.mask (knd.hash k) (c + d)) i (pr t.mask (knd.hash k) (c + (d + 1)))) Q E s := by
        unfold searchRest
        rw [rows_get R.rows hp]
        dsimp only [hrow]
        refine wpAny_bind (wpAny_holding (knd.eqBool hr (R.its p pm) hx ?_))
        refine wpAny_bind (wpAny_setState_of ho hd R.fits ?_)
        dsimp only
        by_cases same : p.2 = k
        · exact wp_if_pos (by simp [same]) (wpAny_pure (yes (List.mem_map.mpr ⟨p, pm, same⟩)))
        · refine wp_if_neg (by simp [same]) ?_
          try refine wpAny_bind (wpAny_pure ?_)
          rw [sameMem]
          dsimp only
          have live := slot_live R.tab.ris hi
          simp only [if_true, live, rows_get R.rows hp, hrow]
          refine wpAny_bind (wpAny_isSame_ref_self (wpAny_bind (wpAny_pure ?_)))
          simp only [if_true]
          refine wp_if_neg (by simp [same]) (ih (c + (d + 1)) _ rfl (by omega) (by omega) fun i0 p0 h0 k0 => ?_)
          obtain ⟨d0, g1, g2, g3⟩ := left i0 p0 h0 k0
          refine ⟨d0, ?_, g2, g3⟩
          rcases Nat.lt_trichotomy d0 (c + d) with z | z | z
          · exact (before (d0 - c) i0 (by omega) (by rw [jj, Nat.add_sub_cancel' g1]; exact g3) ((hash_at i0 p0 h0).trans (by rw [k0]))).elim
          · rw [z] at g3
            have l0 := slot_live R.tab.ris g3
            rw [live] at l0
            injection l0 with l0
            rw [← l0, hp] at h0
            exact absurd ((congrArg Prod.snd (Option.some.inj h0)).trans k0) same
          · omega
      cases hl : t.led with
      | true =>
        refine wp_if_neg (by simp) ?_
        try refine wpAny_bind (wpAny_pure ?_)
        exact tail
      | false =>
        refine wp_if_pos (by simp) (wpAny_bind (quiet_search M hx _ (fun y hy => ?_) ?_))
        · obtain ⟨r, hr', rfl⟩ := List.mem_map.mp hy
          have hr2 : r ∈ es.toList := by
            have : r ∈ es ∧ r.1 = knd.hash k := by simpa using hr'
            simpa using this.1
          rw [R.rows] at hr2
          obtain ⟨p2, m2, rfl⟩ := List.mem_map.mp hr2
          exact ⟨_, _, rfl, R.its p2 m2⟩
        · refine wp_if_neg Bool.false_ne_true ?_
          try refine wpAny_bind (wpAny_pure ?_)
          exact tail
    · have e : t.probe (fun i => (es[i]?.map (·.1)).getD 0) (knd.hash k) (st.getD (t.probeStart (knd.hash k))) = some (.empty (way t.mask (knd.hash k) K) none) := by
        have z := jj (K - c)
        rw [Nat.add_sub_cancel' hc] at z
        rw [hst, ← z]; exact found
      rw [e]
      dsimp only
      refine wpAny_pure (no fun hm => ?_)
      obtain ⟨p0, m0, k0⟩ := List.mem_map.mp hm
      obtain ⟨i0, h0⟩ := List.mem_iff_getElem?.mp m0
      obtain ⟨d0, g1, g2, g3⟩ := left i0 p0 h0 k0
      exact before (d0 - c) i0 (by omega) (by rw [jj, Nat.add_sub_cancel' g1]; exact g3) ((hash_at i0 p0 h0).trans (by rw [k0]))

theorem hunt_at (M : Mild knd) (R : Hset knd s.heap a L es ep t) {x : Addr} {k : κ} (hx : knd.is s.heap k x) (hr : knd.room A) {Q : SetFound → Shared → Prop} (yes : k ∈ L.map (·.2) → Q (.there none) s)
    (no : ∀ K, k ∉ L.map (·.2) → way t.mask (knd.hash k) K ∉ t.place.toList → (∀ c, c < K → way t.mask (knd.hash k) c ∈ t.place.toList) → Q (.free (way t.mask (knd.hash k) K) false) s) :
    wpAny (model P w) A (setSearch a (.ref x) (knd.hash k) true) Q E s := by
  obtain ⟨K, b1, b2, b3⟩ := R.tab.first (by rw [List.length_map]; have := R.free; omega) (knd.hash k)
  have small : K < 100000 := by
    have z : SetTable.turns t.mask ≤ 142 := by
      unfold SetTable.turns
      rcases R.tab.mok with q | q | q <;> omega
    omega
  unfold setSearch
  refine hunt M R hx hr b1 b2 b3 yes (fun q => no K q b2 b3) 100000 0 none rfl (Nat.zero_le _) (by omega) fun i p hp hk => ?_
  have hi : (L.map fun p => knd.hash p.2)[i]? = some (knd.hash k) := by rw [List.getElem?_map, hp, ← hk]; rfl
  have il : i < t.place.toList.length := by
    have h1 := (List.getElem?_eq_some_iff.mp hp).1
    have h2 := R.tab.sz
    rw [List.length_map] at h2
    rw [Array.length_toList]; omega
  obtain ⟨d, g1, g2⟩ := R.tab.before b2 hi (List.getElem?_eq_getElem il)
  exact ⟨d, Nat.zero_le _, g1, by rw [g2, List.getElem?_eq_getElem il]⟩

theorem fm_congr {α β : Type} {f g : α → Option β} : ∀ {l : List α}, (∀ i ∈ l, f i = g i) → l.filterMap f = l.filterMap g
  | [], _ => rfl
  | x :: l, h => by rw [List.filterMap_cons, List.filterMap_cons, h x List.mem_cons_self, fm_congr fun i hi => h i (List.mem_cons_of_mem _ hi)]
theorem range_self {α : Type} : ∀ l : List α, (List.range l.length).filterMap (fun i => l[i]?) = l
  | [] => rfl
  | x :: l => by
    rw [List.length_cons, List.range_succ_eq_map, List.filterMap_cons_some (f := fun i => (x :: l)[i]?) (b := x) (by simp), List.filterMap_map]
    have e : ((fun i => (x :: l)[i]?) ∘ Nat.succ) = fun i => l[i]? := by funext i; simp
    rw [e, range_self l]
/-- rows taken in another order -/
theorem rows_order (r : es.toList = L.map (hrow knd)) {order : Array Nat} (hp : order.toList.Perm (List.range L.length)) : ∃ L2 : List (Addr × κ), (order.filterMap (es[·]?)).toList = L2.map (hrow knd) ∧ L2.Perm L ∧ (L2.map fun p => knd.hash p.2) = order.toList.map fun i => (es.map (·.1)).getD i 0 := by
  have at_ : ∀ i, es[i]? = (L[i]?).map (hrow knd) := fun i => by rw [← Array.getElem?_toList, r, List.getElem?_map]
  refine ⟨order.toList.filterMap fun i => L[i]?, ?_, ?_, ?_⟩
  · rw [Array.toList_filterMap, List.map_filterMap]
    exact fm_congr fun i _ => at_ i
  · have z := hp.filterMap fun i => L[i]?
    rw [range_self] at z
    exact z
  · rw [List.map_filterMap, ← List.filterMap_eq_map]
    refine fm_congr fun i hi => ?_
    have il : i < L.length := List.mem_range.mp (hp.mem_iff.mp hi)
    have z : (es.map (·.1))[i]? = some (knd.hash (L[i]).2) := by rw [Array.getElem?_map, at_, List.getElem?_eq_getElem il]; rfl
    rw [List.getElem?_eq_getElem il]
    show some (knd.hash (L[i]).2) = some ((es.map (·.1)).getD i 0)
    rw [Array.getD_eq_getD_getElem?, z]
    rfl

theorem its_same (M : Mild knd) {h h' : Heap} {x : Addr} {k : κ} {o : Obj} (hx : knd.is h k x) (ho : h.get? a = some o) (hd : o.data = .set es ep t) (sb : Heap.SameBut a h h') : knd.is h' k x :=
  M.stay hx fun u hu => by
    obtain ⟨o', vs, n, h1, h2⟩ := M.seq hx
    refine (sb.2 x fun z => ?_).trans hu
    rw [z, ho] at h1; cases h1
    rw [hd] at h2; cases h2

/-- a table laid larger -/
theorem relaid (M : Mild knd) {o : Obj} (ho : s.heap.get? a = some o) (hex : o.ExactSet) (hd : o.data = .set es ep t) (rows : es.toList = L.map (hrow knd)) (T : TabOk t (L.map fun p => knd.hash p.2)) (le : L.length ≤ t.mask)
    (nd : (L.map (·.2)).Nodup) (its : ∀ p ∈ L, knd.is s.heap p.2 p.1) (ld : w.params.followText "set-order" = true ∨ t.led = true) (few : L.length < 64) {want m : Nat}
    (w1 : SetTable.sizeAbove want - 1 = m) (w2 : MaskOk m) (w3 : SetTable.sizeAbove want ≤ 128) (w4 : L.length * 5 < m * 3) {Q : Unit → Shared → Prop}
    (q : ∀ h' L' es' ep' t', Heap.SameBut a s.heap h' → Hset knd h' a L' es' ep' t' → L'.Perm L → Q () { s with heap := h' }) : wpAny (model P w) A (setRelay a want) Q E s := by
  have sz := rows_size rows
  obtain ⟨t', order, e, hp, T', em, el, _, _⟩ := relaid_ok t (hs := es.map (·.1)) (wanted := want) w1 w2 (by rw [Array.size_map, sz]; omega)
  rw [Array.size_map, sz] at hp
  obtain ⟨L2, r1, r2, r3⟩ := rows_order rows hp
  rw [← r3] at T'
  have sz2 : (order.filterMap (es[·]?)).size = es.size := by rw [rows_size r1, r2.length_eq, sz]
  rw [setRelay_eq]
  refine wpAny_bind (wpAny_setState_of ho hd (fits_of T rows le) ?_)
  dsimp only
  refine wp_if_neg (by rw [sizeLine_eq]; omega) ?_
  try refine wpAny_bind (wpAny_pure ?_)
  rw [e]
  dsimp only
  refine wpAny_bind (wp_if_neg (by rw [sz2]; simp) ?_)
  try refine wpAny_bind (wpAny_pure ?_)
  refine wpAny_pure ?_
  dsimp only
  refine wpAny_storeSet_of ho hd ?_ (by rw [sz2, sz, sizeLine_eq]; omega)
  have sb : Heap.SameBut a s.heap (s.heap.update a (Obj.putSet (order.filterMap (es[·]?)) t')) := Heap.SameBut.update ..
  exact q _ L2 _ (ep + 1) t' sb ⟨⟨_, store_at ho hd, ⟨hex.1, hex.2.1, hex.2.2⟩, rfl⟩, r1, T', (r2.map (·.2)).nodup_iff.mpr nd, fun p hpm => its_same M (its p (r2.mem_iff.mp hpm)) ho hd sb,
    by rw [el]; exact ld, by rw [r2.length_eq, em]; exact w4, by rw [r2.length_eq]; exact few⟩ r2

/-- one item more -/
theorem adds (M : Mild knd) (R : Hset knd s.heap a L es ep t) {x : Addr} {k : κ} (hx : knd.is s.heap k x) (hr : knd.room A) (few : L.length + 1 < 64) {Q : Bool → Shared → Prop}
    (q : ∀ b h' L' es' ep' t', Heap.SameBut a s.heap h' → Hset knd h' a L' es' ep' t' → (k ∈ L.map (·.2) → L' = L) → (k ∉ L.map (·.2) → L'.Perm ((x, k) :: L)) → Q b { s with heap := h' }) :
    wpAny (model P w) A (setAddHashed a (.ref x) (knd.hash k)) Q E s := by
  obtain ⟨o, ho, hex, hd⟩ := R.obj
  have sz := rows_size R.rows
  have fr := R.free
  unfold setAddHashed
  refine wpAny_holding ?_
  rw [show (100000 : Nat) = 99999 + 1 from rfl, setAddHashedIn_succ]
  refine wpAny_bind (wpAny_setState_of ho hd R.fits ?_)
  dsimp only
  refine wp_if_neg (by simp [byScan, Value.scannable]) ?_
  try refine wpAny_bind (wpAny_pure ?_)
  refine wpAny_bind (hunt_at M R hx hr (fun hm => wpAny_pure (q false s.heap L es ep t (Heap.SameBut.refl a s.heap) R (fun _ => rfl) fun z => absurd hm z)) fun K hm b2 b3 => ?_)
  dsimp only
  refine wpAny_bind (wpAny_setState_of ho hd R.fits ?_)
  dsimp only
  obtain ⟨q1, q2, q3, q4, q5, q6, q7, q8, q9⟩ := R.tab.put b2 b3
  generalize hpt : t.put (way t.mask (knd.hash k) K) = pt at q1 q3 q4 q5 q6 q7 q8 q9 ⊢
  obtain ⟨t1, p⟩ := pt
  dsimp only at q1 q3 q4 q5 q6 q7 q8 q9 ⊢
  subst q1
  generalize SetTable.below t.place (way t.mask (knd.hash k) K) = p at q2 q3 ⊢
  have r1 : (SetTable.insertAt es p (knd.hash k, Value.ref x)).toList = (L.take p ++ (x, k) :: L.drop p).map (hrow knd) := by
    rw [SetTable.toList_insertAt, R.rows, List.map_append, List.map_cons, List.map_take, List.map_drop]; rfl
  have pm := put_perm L p (x, k)
  have e3 : (L.map fun p => knd.hash p.2).take p ++ knd.hash k :: (L.map fun p => knd.hash p.2).drop p = (L.take p ++ (x, k) :: L.drop p).map fun p => knd.hash p.2 := by
    rw [List.map_append, List.map_cons, List.map_take, List.map_drop]
  rw [e3] at q3
  generalize SetTable.insertAt es p (knd.hash k, Value.ref x) = es1 at r1 ⊢
  generalize L.take p ++ (x, k) :: L.drop p = L1 at pm q3 r1
  have len : L1.length = L.length + 1 := pm.length_eq
  have sz1 : es1.size = L.length + 1 := by rw [rows_size r1, len]
  have nd1 : (L1.map (·.2)).Nodup := (pm.map (·.2)).nodup_iff.mpr (by rw [List.map_cons]; exact List.nodup_cons.mpr ⟨hm, R.nd⟩)
  -- whatever is told of the table's items' hashes
  have rest : ∀ t2 : SetTable, t2.place = t1.place → t2.mask = t1.mask → t2.led = t1.led → t2.dummies = t1.dummies → t2.tooFull = t1.tooFull → wpAny (model P w) A (do
      storeSet a es1 t2
      if !false && t2.tooFull then setRelay a (SetTable.grown (es.size + 1))
      return true) Q E s := by
    intro t2 p1 p2 p3 p4 p5
    have T2 : TabOk t2 (L1.map fun p => knd.hash p.2) := by
      obtain ⟨z1, z2, z3, z4, z5, z6⟩ := q3
      exact ⟨by rw [p1]; exact z1, by rw [p4]; exact z2, by rw [p1]; exact z3, by rw [p2]; exact z4, by rw [p1, p2]; exact z5, by rw [p1, p2]; exact z6⟩
    refine wpAny_bind (wpAny_storeSet_of ho hd ?_ (by rw [sz1, sizeLine_eq]; omega))
    have sb : Heap.SameBut a s.heap (s.heap.update a (Obj.putSet es1 t2)) := Heap.SameBut.update ..
    have ho1 := store_at (es' := es1) (t' := t2) ho hd
    generalize s.heap.update a (Obj.putSet es1 t2) = h1 at sb ho1 ⊢
    have its1 : ∀ p ∈ L1, knd.is h1 p.2 p.1 := fun p hp => by
      rcases List.mem_cons.mp (pm.mem_iff.mp hp) with e | hp
      · subst e; exact its_same M hx ho hd sb
      · exact its_same M (R.its p hp) ho hd sb
    have ld1 : w.params.followText "set-order" = true ∨ t2.led = true := by rw [p3, q5]; exact R.led
    have full : t1.tooFull = decide ((L.length + 1) * 5 ≥ t.mask * 3) := by
      unfold SetTable.tooFull
      rw [q9, q4, List.length_map]
    cases hf : t2.tooFull with
    | true =>
      rw [p5, full, decide_eq_true_eq] at hf
      have shape : (t.mask = 7 ∧ L.length = 4) ∨ (t.mask = 31 ∧ L.length = 18) := by
        rcases R.tab.mok with e | e | e <;> rw [e] at hf fr
        · exact .inl ⟨e, by omega⟩
        · exact .inr ⟨e, by omega⟩
        · omega
      have go : ∀ m, SetTable.sizeAbove (SetTable.grown (L.length + 1)) - 1 = m → MaskOk m → SetTable.sizeAbove (SetTable.grown (L.length + 1)) ≤ 128 → (L.length + 1) * 5 < m * 3 →
          wpAny (model P w) A (setRelay a (SetTable.grown (L.length + 1))) (fun _ s' => wpAny (model P w) A (pure true) Q E s') E { s with heap := h1 } := fun m w1 w2 w3 w4 =>
        relaid (s := { s with heap := h1 }) M ho1 ⟨hex.1, hex.2.1, hex.2.2⟩ rfl r1 T2 (by rw [len, p2, q4]; rcases shape with ⟨e, e2⟩ | ⟨e, e2⟩ <;> omega) nd1 its1 ld1 (by rw [len]; exact few) w1 w2 w3 (by rw [len]; exact w4)
          fun h2 L2 es2 ep2 t3 sb2 R2 pm2 => wpAny_pure (q true h2 L2 es2 ep2 t3 (sb.trans sb2) R2 (fun z => absurd z hm) fun _ => pm2.trans pm)
      rw [sz]
      have run : wpAny (model P w) A (setRelay a (SetTable.grown (L.length + 1))) (fun _ s' => wpAny (model P w) A (pure true) Q E s') E { s with heap := h1 } := by
        rcases shape with ⟨_, e2⟩ | ⟨_, e2⟩
        · exact go 31 (by rw [e2, size_20]) (.inr (.inl rfl)) (by rw [e2, size_20]; decide) (by omega)
        · exact go 127 (by rw [e2, size_76]) (.inr (.inr rfl)) (by rw [e2, size_76]; decide) (by omega)
      first
        | exact wpAny_bind (wp_if_pos (by simp) run)
        | exact wp_if_pos (by simp) (wpAny_bind run)
    | false =>
      rw [p5, full, decide_eq_false_iff_not] at hf
      have fin := q true h1 L1 es1 (ep + 1) t2 sb ⟨⟨_, ho1, ⟨hex.1, hex.2.1, hex.2.2⟩, rfl⟩, r1, T2, nd1, its1, ld1, by rw [len, p2, q4]; omega, by rw [len]; exact few⟩ (fun z => absurd z hm) fun _ => pm
      first
        | exact wp_if_neg (by simp) (wpAny_pure fin)
        | exact wpAny_bind (wp_if_neg (by simp) (wpAny_pure (wpAny_pure fin)))
  have pick : ∀ b : Bool, wpAny (model P w) A (do
      storeSet a es1 (if b = true then t1 else { t1 with plain := false })
      if !false && (if b = true then t1 else { t1 with plain := false } : SetTable).tooFull then setRelay a (SetTable.grown (es.size + 1))
      return true) Q E s := fun b => by
    cases b with
    | true => exact rest t1 rfl rfl rfl rfl rfl
    | false => exact rest { t1 with plain := false } rfl rfl rfl rfl rfl
  cases hpl : t1.plain with
  | true =>
    first
      | exact wpAny_bind (wp_if_pos rfl (M.val hx pick))
      | exact wp_if_pos rfl (wpAny_bind (M.val hx pick))
  | false =>
    first
      | exact wpAny_bind (wp_if_neg Bool.false_ne_true (wpAny_pure (pick true)))
      | exact wp_if_neg Bool.false_ne_true (wpAny_bind (wpAny_pure (pick true)))
end
end CB
/-! CBLib9 -/
set_option Elab.async false
set_option autoImplicit false
set_option linter.all false
set_option maxRecDepth 100000
set_option maxHeartbeats 3200000
/-! set(list of tuples of texts), sorted of it. -/
namespace CB
open PySem PySem.Spec PyProof.Rows L2

section
variable {P : Program} {w : World}
abbrev tk (P : Program) (w : World) : HeapKind P w (List Str) := tupleKind (PySem.strKind P w)
theorem texts_of {ks : List Str} {vs : List Value} (h : ItemsAre (PySem.strKind P w) ks vs) : ∀ v ∈ vs, ∃ x t, v = Value.str x t := by
  induction h with
  | nil => exact fun v z => nomatch z
  | @cons k v' ks vs h1 _ ih =>
    intro v hv
    rcases List.mem_cons.mp hv with e | hv
    · subst e
      obtain ⟨t, e⟩ := Value.isStrOf_shape h1
      exact ⟨k, t, e⟩
    · exact ih v hv
theorem mild_texts : Mild (tk P w) where
  cls := by
    intro A E s k a Q hk q
    have ty := IsTupleKey.typeIs hk
    obtain ⟨o, items, n, ho, _, hd, hi⟩ := hk
    have all := texts_of hi
    unfold ofAClassStatement
    refine wpAny_bind (wpAny_typeOf ty ?_)
    dsimp only
    simp only [show (("tuple" : String) == "tuple") = true by decide, if_true]
    try refine wpAny_bind (wpAny_pure ?_)
    simp only [Bool.not_true, Bool.false_eq_true, if_false]
    refine wpAny_bind (wpAny_seqItems ho hd ?_)
    dsimp only
    refine wpAny_bind ?_
    rw [← Array.forIn_toList]
    refine wpAny_forIn_list _ (fun left r s' => (r.1 = none ∧ s' = s) ∧ ∀ v ∈ left, ∃ x t, v = Value.str x t) _ ?_ ?_ _ _ ⟨⟨rfl, rfl⟩, all⟩
    · rintro v left r s' ⟨⟨_, rfl⟩, h⟩
      obtain ⟨x, t, rfl⟩ := h v List.mem_cons_self
      have e : ofAClassStatement 7 (.str x t) = pure false := rfl
      rw [e]
      refine wpAny_bind (wpAny_pure ?_)
      simp only [Bool.false_eq_true, if_false]
      exact wpAny_pure ⟨⟨rfl, rfl⟩, fun u hu => h u (List.mem_cons_of_mem _ hu)⟩
    · rintro ⟨r1, r2⟩ s' ⟨⟨e, rfl⟩, _⟩
      have e' : r1 = none := e
      subst e'
      exact wpAny_pure q
  val := by
    intro A E s k a Q hk q
    have ty := IsTupleKey.typeIs hk
    obtain ⟨o, items, n, ho, _, hd, hi⟩ := hk
    have all := texts_of hi
    unfold hashByValue
    refine wpAny_bind (wpAny_specialOf ty F.slot_tuple_hash.lookup ?_)
    dsimp only
    refine wpAny_bind (wpAny_seqItems ho hd ?_)
    refine wpAny_bind ?_
    show wpAny _ _ (forIn items _ _) _ _ s
    rw [← Array.forIn_toList]
    refine wpAny_forIn_list _ (fun left r s' => s' = s ∧ ∀ v ∈ left, ∃ x t, v = Value.str x t) _ ?_ ?_ _ _ ⟨rfl, all⟩
    · rintro v left r s' ⟨rfl, h⟩
      obtain ⟨x, t, rfl⟩ := h v List.mem_cons_self
      have e : hashByValue 7 (.str x t) = pure false := rfl
      rw [e]
      refine wpAny_bind (wpAny_pure ?_)
      simp only [Bool.not_false, if_true]
      exact wpAny_pure (wpAny_pure (q _))
    · rintro ⟨r1, r2⟩ s' h
      first
        | (obtain ⟨rfl, _⟩ := h)
        | skip
      cases r1 with
      | none => exact wpAny_pure (q _)
      | some b => exact wpAny_pure (q _)
  seq := fun ⟨o, items, n, ho, _, hd, _⟩ => ⟨o, items, n, ho, hd⟩
  stay := fun ⟨o, items, n, ho, r⟩ k => ⟨o, items, n, k _ ho, r⟩

variable {κ : Type} [DecidableEq κ] {knd : HeapKind P w κ} {A : Around} {E : Value → Shared → Prop} {s : Shared}
theorem Hset.kept (M : Mild knd) {h h' : Heap} {a : Addr} {L : List (Addr × κ)} {es : Array (Int × Value)} {ep : Nat} {t : SetTable} (R : Hset knd h a L es ep t) (ha : ∀ o, h.get? a = some o → h'.get? a = some o) (ht : ∀ p ∈ L, knd.is h' p.2 p.1) : Hset knd h' a L es ep t := by
  obtain ⟨⟨o, ho, r⟩, r2, r3, r4, _, r6, r7, r8⟩ := R
  exact ⟨⟨o, ha o ho, r⟩, r2, r3, r4, ht, r6, r7, r8⟩
/-- what the first i items leave -/
structure Taken (ks : List (Addr × κ)) (i : Nat) (L : List (Addr × κ)) : Prop where
  sub : ∀ p ∈ L, p ∈ ks.take i
  all : ∀ p ∈ ks.take i, p.2 ∈ L.map (·.2)
  len : L.length ≤ i
theorem Taken.next {ks L L' : List (Addr × κ)} {i : Nat} {x : Addr × κ} (g : Taken ks i L) (h : ks[i]? = some x) (c1 : x.2 ∈ L.map (·.2) → L' = L) (c2 : x.2 ∉ L.map (·.2) → L'.Perm (x :: L)) : Taken ks (i + 1) L' := by
  have e : ks.take (i + 1) = ks.take i ++ [x] := take_next h
  by_cases c : x.2 ∈ L.map (·.2)
  · rw [c1 c]
    refine ⟨fun p hp => by rw [e]; exact List.mem_append_left _ (g.sub p hp), fun p hp => ?_, Nat.le_succ_of_le g.len⟩
    rw [e, List.mem_append, List.mem_singleton] at hp
    rcases hp with z | z
    · exact g.all p z
    · rw [z]; exact c
  · have pm := c2 c
    refine ⟨fun p hp => ?_, fun p hp => ?_, by rw [pm.length_eq]; exact Nat.succ_le_succ g.len⟩
    · rw [e, List.mem_append, List.mem_singleton]
      rcases List.mem_cons.mp (pm.mem_iff.mp hp) with z | z
      · exact .inr z
      · exact .inl (g.sub p z)
    · rw [(pm.map (·.2)).mem_iff, List.map_cons, List.mem_cons]
      rw [e, List.mem_append, List.mem_singleton] at hp
      rcases hp with z | z
      · exact .inr (g.all p z)
      · exact .inl (by rw [z])

theorem hset_new {h : Heap} {a : Addr} (ho : h.get? a = some { cls := .type "set", dict := none, data := .set #[] 0 (.fresh 0 0 (!w.params.followText "set-order")) }) : Hset knd h a [] #[] 0 (.fresh 0 0 (!w.params.followText "set-order")) := by
  refine ⟨⟨_, ho, ⟨rfl, rfl, rfl⟩, rfl⟩, rfl, ⟨List.Pairwise.nil, rfl, rfl, .inl rfl, fun x hx => (nomatch hx), fun i h j hi => by simp at hi⟩, List.nodup_nil, fun p hp => (nomatch hp), ?_, ?_, ?_⟩
  · show _ ∨ (!w.params.followText "set-order") = true
    cases w.params.followText "set-order"
    · exact .inr rfl
    · exact .inl rfl
  · show 0 * 5 < 7 * 3
    decide
  · show 0 < 64
    decide

/-- the loop that takes the items in -/
theorem take_loop (M : Mild knd) (hr : knd.room A.in1) {I S : Addr} {fp wr : List Addr} {G : Array GenState → Array GenState → Prop} {Pv : Nat → Value → Prop} {St : Nat → Shared → Prop} {R : Result → Shared → Prop} {ks : List (Addr × κ)}
    (W : WalksS P w A.in1 I fp wr G ks.length Pv St) (hS : S ∉ fp) (few : ∀ L : List (Addr × κ), (L.map (·.2)).Nodup → (∀ p ∈ L, p ∈ ks) → L.length < 63) (hv : ∀ i v, Pv i v → ∃ p, ks[i]? = some p ∧ v = .ref p.1) (hk : ∀ p ∈ ks, knd.is s.heap p.2 p.1) (n1 : s.heap.get? S = none) (n2 : ∀ b ∈ wr, s.heap.get? b = none) :
    ∀ (left i : Nat) (z : Shared), left = ks.length - i → i ≤ ks.length → St i z → (∀ b o, s.heap.get? b = some o → z.heap.get? b = some o) → (∃ L es ep t, Hset knd z.heap S L es ep t ∧ Taken ks i L) →
      (∀ z' L es ep t, Moved (S :: wr) G z z' → Hset knd z'.heap S L es ep t → Taken ks ks.length L → (∀ b o, s.heap.get? b = some o → z'.heap.get? b = some o) → R (.ok (.ret .none)) z') →
      codeAny (model P w) A (.builtin "set.update.loop" ⟨[.ref S, .ref I], []⟩) R z := by
  have out : S ∉ wr := fun h => hS (W.sub _ h)
  have mv : ∀ {z z' : Shared}, Moved wr G z z' → (∀ b o, s.heap.get? b = some o → z.heap.get? b = some o) → ∀ b o, s.heap.get? b = some o → z'.heap.get? b = some o := fun m k b o e =>
    m.heap b o (fun hb => by rw [n2 b hb] at e; cases e) (k b o e)
  have is' : ∀ {z : Shared} {p : Addr × κ}, p ∈ ks → (∀ b o, s.heap.get? b = some o → z.heap.get? b = some o) → knd.is z.heap p.2 p.1 := fun hp k => M.stay (hk _ hp) fun o e => k _ o e
  intro left
  induction left with
  | zero =>
    intro i z e hi st kp ⟨L, es, ep, t, hs, g⟩ fin
    obtain rfl : i = ks.length := by omega
    refine codeAny_builtin F.entry_set_update_loop ?_
    rw [Around.under_plainId F.plain_set_update_loop _]
    show wpAny _ A.in1 (pyNext (.ref I) >>= _) _ _ z
    refine wpAny_bind (W.done z _ _ st fun z' m => ?_)
    have kp' := mv m kp
    exact wpAny_pure (fin z' L es ep t (m.mono fun b hb => List.mem_cons_of_mem _ hb) (hs.kept M (fun o e => m.heap S o out e) fun p hp => is' (List.mem_of_mem_take (g.sub p hp)) kp') g kp')
  | succ left ih =>
    intro i z e hi st kp ⟨L, es, ep, t, hs, g⟩ fin
    have lt : i < ks.length := by omega
    refine codeAny_builtin F.entry_set_update_loop ?_
    rw [Around.under_plainId F.plain_set_update_loop _]
    show wpAny _ A.in1 (pyNext (.ref I) >>= _) _ _ z
    refine wpAny_bind (W.item i z _ _ lt st fun v z' pv st' m => ?_)
    obtain ⟨p, hp, rfl⟩ := hv i v pv
    have kp' := mv m kp
    have hx : knd.is z'.heap p.2 p.1 := is' (List.mem_of_getElem? hp) kp'
    have hs' := hs.kept M (fun o e => m.heap S o out e) fun q hq => is' (z := z') (List.mem_of_mem_take (g.sub q hq)) kp'
    show wpAny _ A.in1 (holding [Value.ref p.1] (setAdd S (.ref p.1)) >>= _) _ _ z'
    refine wpAny_bind (wpAny_holding ?_)
    unfold setAdd
    refine wpAny_holding (wpAny_bind (knd.pyHash hr hx ?_))
    refine adds (s := { z' with toks := z'.toks + knd.draws p.2 }) M hs' hx hr (by have := few L hs'.nd (fun p hp => List.mem_of_mem_take (g.sub p hp)); omega) fun b h' L' es' ep' t' sb hs2 c1 c2 => ?_
    have kp2 : ∀ b o, s.heap.get? b = some o → h'.get? b = some o := fun b o e => (sb.2 b (fun q => by rw [q, n1] at e; cases e)).trans (kp' b o e)
    refine wpAny_pure ⟨plainId_quiet F.plain_set_update_loop _, ih (i + 1) _ (by omega) lt (W.frame _ z' _ _ st' (Nat.le_add_right _ _) fun b hb o e => ?_) kp2 ⟨L', es', ep', t', hs2, g.next hp c1 c2⟩ fun z2 L2 es2 ep2 t2 m2 hs3 g3 kp3 => ?_⟩
    · rw [sb.2 b fun q => hS (q ▸ hb)]; exact e
    · refine fin z2 L2 es2 ep2 t2 (Moved.trans W.gtrans ((m.mono fun b hb => List.mem_cons_of_mem _ hb).then_heap (Nat.le_add_right _ _) fun b o hb e => ?_) m2) hs3 g3 kp3
      rw [sb.2 b fun q => hb (q ▸ List.mem_cons_self)]; exact e
end
end CB
/-! CBLib10 -/
set_option Elab.async false
set_option autoImplicit false
set_option linter.all false
set_option maxRecDepth 100000
set_option maxHeartbeats 3200000
/-! The calls set(l) and sorted(s). -/
namespace CB
open PySem PySem.Spec PyProof.Rows L2

section
variable {P : Program} {w : World} {κ : Type} [DecidableEq κ] {knd : HeapKind P w κ} {A : Around} {E : Value → Shared → Prop} {s : Shared}
/-- a set as it is born -/
abbrev born (w : World) : Obj := { cls := .type "set", dict := none, data := .set #[] 0 (.fresh 0 0 (!w.params.followText "set-order")) }
abbrev afterBirth (w : World) (s : Shared) : Shared := { s with heap := s.heap.push (born w) }

theorem init_set (M : Mild knd) (hr : ∀ A : Around, A.units < cLine - 8 → knd.room A) (hu : A.units + 32 < cLine) (hh : A.handled = none) {l : Addr} {items : Array Value} (ks : List (Addr × κ)) (hl : s.heap.IsList l items) (hit : items.toList = ks.map fun p => Value.ref p.1)
    (hk : ∀ p ∈ ks, knd.is s.heap p.2 p.1) (few : ∀ L : List (Addr × κ), (L.map (·.2)).Nodup → (∀ p ∈ L, p ∈ ks) → L.length < 63) {T : PySem.Fin → Shared → Prop}
    (q : ∀ (h' : Heap) (tk : Nat) L es ep t, Hset knd h' s.heap.objs.size L es ep t → Taken ks ks.length L → (∀ b o, s.heap.get? b = some o → h'.get? b = some o) → T (.done (.ret .none)) { s with heap := h', toks := tk }) :
    wpAny (model P w) A (Builtin.«set.__init__» ⟨[.ref s.heap.objs.size, .ref l], []⟩) T E (afterBirth w s) := by
  have size : items.size = ks.length := by rw [← Array.length_toList, hit, List.length_map]
  obtain ⟨⟨cl, di, da, sl⟩, ol, c1, nl, d1⟩ := hl
  dsimp only at c1 d1
  subst c1 d1
  have here : (afterBirth w s).heap.get? s.heap.objs.size = some (born w) := Heap.get?_push_size _ rfl
  have isSet : Shared.TypeIs (afterBirth w s) (.ref s.heap.objs.size) "set" := ⟨_, here, rfl⟩
  have there : (afterBirth w s).heap.get? l = some { cls := .type "list", dict := di, data := .seq items nl, slots := sl } := Heap.get?_push_of_some _ ol
  have isL : (afterBirth w s).heap.IsList l items := ⟨_, there, rfl, nl, rfl⟩
  have sz : (afterBirth w s).heap.objs.size = s.heap.objs.size + 1 := Heap.size_push ..
  have lt : l < s.heap.objs.size := Heap.lt_size ol
  have p1 := F.sub_list_set
  have p2 := F.sub_list_frozenset
  have p3 : (Value.type "list" == Value.type "dict") = false := by decide
  unfold Builtin.«set.__init__» noKeywords Builtin.Frozenset.updateFrom
  generalize hit' : pyIter = itr
  wp_walk
  subst hit'
  refine wpAny_pyIter_list isL (wpAny_bind (wpAny_runValue ?_))
  have fresh : ∀ b, s.heap.objs.size ≤ b → s.heap.get? b = none := fun b hb => Heap.get?_none_of_le hb
  refine take_loop (s := s) M (hr _ (by show A.units + 1 < _; omega)) (S := s.heap.objs.size) (size ▸ (Walks.list (by simp [hh]) _ l (by rw [sz]; exact Nat.ne_of_lt (Nat.lt_succ_of_lt lt)) items).toS) ?_ few (fun i v hv => ?_) hk (fresh _ (Nat.le_refl _)) (fun b hb => ?_)
    (ks.length - 0) 0 _ rfl (Nat.zero_le _) ⟨⟨_, Heap.get?_push_size _ rfl, rfl, rfl⟩, isL.push _⟩ (fun b o e => Heap.get?_push_of_some _ (Heap.get?_push_of_some _ e)) ⟨[], #[], 0, _, hset_new (Heap.get?_push_of_some _ here), ⟨fun p h => (nomatch h), fun p h => by simp at h, Nat.le_refl _⟩⟩ ?_
  · rw [sz, List.mem_cons, List.mem_singleton, not_or]
    exact ⟨Nat.ne_of_lt (Nat.lt_succ_self _), Nat.ne_of_gt lt⟩
  · have z : items.toList[i]? = some v := by rw [Array.getElem?_toList]; exact hv
    rw [hit, List.getElem?_map] at z
    obtain ⟨p, hp, rfl⟩ := Option.map_eq_some_iff.mp z
    exact ⟨p, hp, rfl⟩
  · refine fresh b ?_
    rw [List.mem_singleton.mp hb, sz]
    exact Nat.le_succ _
  · intro z' L es ep t m hs g kp
    obtain ⟨a1, a2, a3, a4, a5⟩ := z'
    have e1 : a2 = s.gens := m.gens
    have e2 : a3 = s.drawn := m.drawn
    have e3 : a5 = s.os := m.os
    subst e1 e2 e3
    exact wpAny_pure (wpAny_pure (q _ _ _ _ _ _ hs g kp))

theorem call_setH (M : Mild knd) (hr : ∀ A : Around, A.units < cLine - 8 → knd.room A) (hu : A.units + 64 < cLine) (hh : A.handled = none) {l : Addr} {items : Array Value} (ks : List (Addr × κ)) (hl : s.heap.IsList l items) (hit : items.toList = ks.map fun p => Value.ref p.1)
    (hk : ∀ p ∈ ks, knd.is s.heap p.2 p.1) (few : ∀ L : List (Addr × κ), (L.map (·.2)).Nodup → (∀ p ∈ L, p ∈ ks) → L.length < 63) {Q : Value → Shared → Prop}
    (q : ∀ (h' : Heap) (tk : Nat) L es ep t, Hset knd h' s.heap.objs.size L es ep t → Taken ks ks.length L → (∀ b o, s.heap.get? b = some o → h'.get? b = some o) → Q (.ref s.heap.objs.size) { s with heap := h', toks := tk }) :
    wpAny (model P w) A (call (.type "set") [.ref l]) Q E s := by
  have f1 := F.called_set.made
  have f2 := F.called_set.sub
  have f3 := F.called_set.notType
  have f4 := F.called_set.canCreate
  have f5 := F.typeCall_set_1 (.ref l)
  have f6 := F.called_set.init.lookup
  have f7 := F.called_set.init.bind (.ref s.heap.objs.size)
  obtain ⟨_, _, f8⟩ := F.called_set.mro
  refine wpAny_call (codeAny_of_tree ?_)
  show wpAny _ _ (callAny (.type "set") _) _ _ _
  refine wpAny_pure ⟨Code.quiet_builtin _ (by decide +kernel), codeAny_builtin F.entry_type_call ?_⟩
  rw [Around.under_plain (weight_type_call_type "set" [.ref l] []) rfl]
  repeat (any_goals (first | wp_step | assumption))
  refine codeAny_mono (code_set_led1 (.ref l) (E := E) (Q₁ := fun u z => u = .ref s.heap.objs.size ∧ z = afterBirth w s) ⟨rfl, rfl⟩) fun r z hz => ?_
  cases r with
  | error e => exact hz
  | ok fl =>
    cases fl with
    | ret u =>
      obtain ⟨rfl, rfl⟩ := hz
      have isSet : Shared.TypeIs (afterBirth w s) (.ref s.heap.objs.size) "set" := ⟨_, Heap.get?_push_size _ rfl, rfl⟩
      repeat (any_goals (first | wp_step | assumption))
      refine codeAny_mono (codeAny_call_builtin (R := wants (fun r z => r = .none ∧ ∃ h' tk L es ep t, z = { s with heap := h', toks := tk } ∧ Hset knd h' s.heap.objs.size L es ep t ∧ Taken ks ks.length L ∧ ∀ b o, s.heap.get? b = some o → h'.get? b = some o) E)
        F.called_set.init.plain F.entry_set_init (check_set_init_1 isSet ?_)) fun r2 z2 h2 => ?_
      · exact init_set M hr (by show A.units + 1 + 1 + 32 < _; omega) (by simpa using hh) ks hl hit hk few fun h' tk L es ep t hs g kp => ⟨rfl, h', tk, L, es, ep, t, rfl, hs, g, kp⟩
      · cases r2 with
        | error e => exact h2
        | ok fl2 =>
          cases fl2 with
          | ret r =>
            obtain ⟨rfl, h', tk, L, es, ep, t, rfl, hs, g, kp⟩ := h2
            repeat (any_goals (first | wp_step | assumption))
            exact q _ _ _ _ _ _ hs g kp
          | next => exact h2.elim
          | brk => exact h2.elim
          | cont => exact h2.elim
    | next => exact hz.elim
    | brk => exact hz.elim
    | cont => exact hz.elim
end
end CB
/-! CBLib11 -/
set_option Elab.async false
set_option autoImplicit false
set_option linter.all false
set_option maxRecDepth 100000
set_option maxHeartbeats 3200000
/-! sorted(set(l)), l of pairs of texts. -/
namespace CB
open PySem PySem.Spec PyProof.Rows L2
open PySem.W (alike alikeAll)

def prK (p : Str × Str) : NestedKey := .tup [.text p.1, .text p.2]
theorem prK_inj {p q : Str × Str} (h : prK p = prK q) : p = q := by
  obtain ⟨a, b⟩ := p
  obtain ⟨c, d⟩ := q
  simp only [prK, NestedKey.tup.injEq, List.cons.injEq, NestedKey.text.injEq] at h
  obtain ⟨h1, h2, _⟩ := h
  rw [h1, h2]
theorem prK_sort {ks : List NestedKey} (h : ∀ k ∈ ks, ∃ p, k = prK p) (hl : ks.length ≤ sizeLine) : SortN ks where
  like := fun k hk k' hk' => by
    obtain ⟨p, rfl⟩ := h k hk
    obtain ⟨q, rfl⟩ := h k' hk'
    simp [prK, NestedKey.data, NestedKey.datas, alike, alikeAll]
  tup := fun k hk => by
    obtain ⟨p, rfl⟩ := h k hk
    exact ⟨_, _, rfl⟩
  depth := depthAll_le fun k hk => by
    obtain ⟨p, rfl⟩ := h k hk
    simp [prK, NestedKey.depth, NestedKey.depthAll]
  len := hl

theorem perm_map {α β : Type} (f : α → β) {m : List β} {l : List α} (h : m.Perm (l.map f)) : ∃ l' : List α, l'.Perm l ∧ m = l'.map f := by
  have go : ∀ {m n : List β}, m.Perm n → ∀ l : List α, n = l.map f → ∃ l' : List α, l'.Perm l ∧ m = l'.map f := by
    intro m n p
    induction p with
    | nil => exact fun l e => ⟨l, .refl _, e⟩
    | @cons x m n p ih =>
      intro l e
      cases l with
      | nil => cases e
      | cons a l =>
        rw [List.map_cons] at e
        injection e with q1 q2
        subst q1
        obtain ⟨l', p', rfl⟩ := ih l q2
        exact ⟨a :: l', p'.cons a, rfl⟩
    | swap x y m =>
      intro l e
      cases l with
      | nil => cases e
      | cons a l =>
        cases l with
        | nil => simp at e
        | cons b l =>
          rw [List.map_cons, List.map_cons] at e
          injection e with q1 q2
          injection q2 with q2 q3
          subst q1 q2 q3
          exact ⟨b :: a :: l, .swap a b l, rfl⟩
    | trans _ _ ih1 ih2 =>
      intro l e
      obtain ⟨l2, p2, rfl⟩ := ih2 l e
      obtain ⟨l1, p1, rfl⟩ := ih1 l2 rfl
      exact ⟨l1, p1.trans p2, rfl⟩
  exact go h l rfl

section
variable {X : Cx} {pins : List (Addr × Obj)} {σ : L2.St} {H : Hp} {s : Shared}
theorem pairs_at : ∀ {ps : List (Str × Str)} {xs : List V}, KAll H xs (ps.map prK) → ∃ bs : List (Addr × (Str × Str)), xs = bs.map (fun b => V.ref b.1) ∧ bs.map (·.2) = ps ∧ ∀ b ∈ bs, KAt H (.ref b.1) (prK b.2)
  | [], _, h => by cases h; exact ⟨[], rfl, rfl, fun b z => nomatch z⟩
  | p :: ps, _, h => by
    cases h with
    | cons h1 h2 =>
      obtain ⟨a, _, rfl, _⟩ := h1.tupRef
      obtain ⟨bs, e1, e2, e3⟩ := pairs_at h2
      refine ⟨(a, p) :: bs, by rw [e1]; rfl, by rw [← e2]; rfl, fun b hb => ?_⟩
      rcases List.mem_cons.mp hb with e | hb
      · subst e; exact h1
      · exact e3 b hb
theorem pair_key (I : Inv X pins σ H s) {b : Addr} {p : Str × Str} (h : KAt H (.ref b) (prK p)) : (tk X.prog X.w).is s.heap [p.1, p.2] b := by
  obtain ⟨a, xs, e, h1, h2⟩ := h.tupRef
  cases e
  have e2 : xs = [.str p.1, .str p.2] := by
    cases h2 with
    | cons g1 g2 =>
      cases g1
      cases g2 with
      | cons g3 g4 => cases g3; cases g4; rfl
  subst e2
  obtain ⟨_, its, rv, o, ho, hc, n, hd⟩ := (show ObjOk X.prog X.w H s.heap b (.tup _) from I.hok _ _ h1)
  obtain ⟨u1, u2, rfl, r1, r2⟩ := vals2 rv
  obtain ⟨t1, rfl⟩ := r1
  obtain ⟨t2, rfl⟩ := r2
  refine ⟨o, _, n, ho, hc, hd, ?_⟩
  have is (x : Str) (t : Tok) : (PySem.strKind X.prog X.w).is x (.str x t) = true := by
    show Value.isStrOf x (.str x t) = true
    simp [Value.isStrOf]
  exact .cons (is _ _) (.cons (is _ _) .nil)

def tSortSet (K : PySem.W.Frag) (ta : TA) : TE := fun σ H Q => ta σ H fun vs H1 => ∃ (l : Addr) (xs : List V) (ps : List (Str × Str)), vs = [.ref l] ∧ SqL K H1 l xs ∧ KAll H1 xs (ps.map prK) ∧ (∀ qs : List (Str × Str), qs.Nodup → (∀ q ∈ qs, q ∈ ps) → qs.length < 63) ∧
  ∀ (p : Addr) (xs' : List V) (qs : List (Str × Str)), H1 p = none → qs.Nodup → (∀ q, q ∈ qs ↔ q ∈ ps) → KAll H1 xs' ((qs.map prK).mergeSort leN) → Q (.ref p) (upd H1 p (.lst xs'))
theorem tk_room : ∀ A : Around, A.units < cLine - 8 → (tk X.prog X.w).room A := fun A h => by
  show A.units < cLine
  omega
theorem pe_sortSet {a : Expr} {ta : TA} {p p2 q pos : Pos} (hc : X.calm = true) (hu : X.A.units + 80 < cLine) (hg : Gl X "sorted") (hm : X.mg "sorted" = none) (hg2 : Gl X "set") (hm2 : X.mg "set" = none) (ha : PA X [a] ta)
    (na : starEach [a] X.env = (false, eval a X.env) :: starEach [] X.env := by rfl) : PE X (.Call (.Name "sorted" p) [.Call (.Name "set" p2) [a] [] q] [] pos) (tSortSet X.K ta) := by
  refine ⟨fun pins s σ H Q I h => ?_⟩
  refine wpAny_Call_Name_kw (ld_blt I hg hm PyProof.Rows.boot_sorted ?_)
  refine PyProof.Rows.callWith_builtin1 (PyProof.Rows.args_cons ?_ rfl) rfl rfl
  refine wpAny_Call_Name_kw (ld_blt I hg2 hm2 PyProof.Rows.boot_set ?_)
  refine PyProof.Rows.callWith_type1 (thn (ha.run q pins s σ H _ I h) fun us s1 ⟨vs, H1, I1, r1, q1⟩ => ?_) na rfl
  obtain ⟨l, xs, ps, rfl, hs, ka, few, q1⟩ := q1
  rw [Vals.ref1 r1]
  obtain ⟨bs, e1, e2, e3⟩ := pairs_at ka
  obtain ⟨its, rv, pl, hz⟩ := I1.list hs
  let ks : List (Addr × List Str) := bs.map fun b => (b.1, [b.2.1, b.2.2])
  have hit : its.toArray.toList = ks.map fun p => Value.ref p.1 := by
    rw [e1] at rv
    have z : ∀ {bs : List (Addr × (Str × Str))} {us : List Value}, Vals (bs.map fun b => V.ref b.1) us → us = (bs.map fun b => (b.1, [b.2.1, b.2.2])).map fun p => Value.ref p.1 := by
      intro bs
      induction bs with
      | nil => intro us r; cases r; rfl
      | cons b bs ih =>
        intro us r
        cases r with
        | cons r1 r2 =>
          cases r1
          rw [ih r2]; rfl
    rw [show its.toArray.toList = its by simp]
    exact z rv
  have len : ks.length = ps.length := by rw [List.length_map, ← e2, List.length_map]
  have few2 : ∀ L : List (Addr × List Str), (L.map (·.2)).Nodup → (∀ p ∈ L, p ∈ ks) → L.length < 63 := by
    intro L hn hm
    have pick : ∀ {L' : List (Addr × List Str)}, (∀ p ∈ L', p ∈ ks) → ∃ cs : List (Addr × (Str × Str)), L' = cs.map (fun b => (b.1, [b.2.1, b.2.2])) ∧ ∀ c ∈ cs, c ∈ bs := by
      intro L'
      induction L' with
      | nil => exact fun _ => ⟨[], rfl, fun c z => nomatch z⟩
      | cons p L' ih =>
        intro h
        obtain ⟨b, hb, e⟩ := List.mem_map.mp (h p List.mem_cons_self)
        obtain ⟨cs, i1, i2⟩ := ih fun q hq => h q (List.mem_cons_of_mem _ hq)
        refine ⟨b :: cs, by rw [← e, i1]; rfl, fun c hc => ?_⟩
        rcases List.mem_cons.mp hc with z | z
        · rw [z]; exact hb
        · exact i2 c z
    obtain ⟨cs, rfl, hcs⟩ := pick hm
    rw [List.map_map] at hn
    have := few (cs.map (·.2)) (List.Pairwise.map _ (fun a b hab e => hab (by show [a.2.1, a.2.2] = [b.2.1, b.2.2]; rw [e])) (List.pairwise_map.mp hn)) (fun q hq => by
      obtain ⟨c, hc', rfl⟩ := List.mem_map.mp hq
      rw [← e2]
      exact List.mem_map.mpr ⟨c, hcs c hc', rfl⟩)
    rw [List.length_map] at this ⊢
    exact this
  refine call_setH (knd := tk X.prog X.w) mild_texts tk_room (by omega) (I1.ok.hd hc) ks pl.isList hit (fun p hp => ?_) few2 fun h' tk2 L es ep t R g kp => ?_
  · obtain ⟨b, hb, rfl⟩ := List.mem_map.mp hp
    exact pair_key I1 (e3 b hb)
  have I2 : Inv X pins σ H1 { s1 with heap := h', toks := tk2 } := I1.kept kp
  refine PyProof.Rows.args_nil ?_
  obtain ⟨o, ho, hex, hd⟩ := R.obj
  have sz := rows_size R.rows
  -- what the set holds
  have mem : ∀ p ∈ L, ∃ b ∈ bs, p = (b.1, [b.2.1, b.2.2]) := fun p hp => by
    obtain ⟨b, hb, e⟩ := List.mem_map.mp (List.mem_of_mem_take (g.sub p hp))
    exact ⟨b, hb, e.symm⟩
  refine sorted_col (s := { s1 with heap := h', toks := tk2 }) (H := H1) (P := fun k => ∃ qs : List (Str × Str), k = qs.map prK ∧ qs.Nodup ∧ (∀ q, q ∈ qs ↔ q ∈ ps) ∧ qs.length < 64) (X := X) (by omega) (fun E' Q' hQ => ?_) (fun k hk => ?_) (fun k hk p xs' hn hk' => ?_)
  · refine L2.collect_set (A := X.A.in1) (I1.ok.hd hc) ⟨o, ho, hex.1, hd⟩ (Hset.fits (s := { s1 with heap := h', toks := tk2 }) R) (by have := R.few; unfold scanBound; omega) R.tab.ris R.led fun s2 out k1 _ g1 o1 pm => ?_
    rw [R.rows, List.map_map] at pm
    obtain ⟨L', pL, rfl⟩ := perm_map _ pm
    have pick : ∀ {L' : List (Addr × List Str)}, (∀ p ∈ L', p ∈ L) → ∃ cs : List (Addr × (Str × Str)), L' = cs.map (fun b => (b.1, [b.2.1, b.2.2])) ∧ ∀ c ∈ cs, c ∈ bs := by
      intro L'
      induction L' with
      | nil => exact fun _ => ⟨[], rfl, fun c z => nomatch z⟩
      | cons p L' ih =>
        intro h
        obtain ⟨b, hb, e⟩ := mem p (h p List.mem_cons_self)
        obtain ⟨cs, e1, e2⟩ := ih fun q hq => h q (List.mem_cons_of_mem _ hq)
        refine ⟨b :: cs, by rw [e, e1]; rfl, fun c hc => ?_⟩
        rcases List.mem_cons.mp hc with z | z
        · rw [z]; exact hb
        · exact e2 c z
    obtain ⟨cs, ec, hcs⟩ := pick (fun p hp => pL.mem_iff.mp hp)
    have nd : (L'.map (·.2)).Nodup := (pL.map (·.2)).nodup_iff.mpr R.nd
    have I3 : Inv X pins σ H1 s2 := by
      obtain ⟨a1, a2, a3, a4, a5⟩ := s2
      have z1 : a2 = s1.gens := g1
      have z2 : a5 = s1.os := o1
      subst z1 z2
      exact L2.Inv.call (s := { s1 with heap := h', toks := tk2 }) (h' := a1) (g' := s1.gens) (d' := a3) (t' := a4) (ch := []) I2 (Un.kept k1) (I2.hok.kept k1) I2.bare (fun b z => absurd z (by simp))
    refine hQ s2 _ (cs.map fun c => V.ref c.1) ((cs.map (·.2)).map prK) I3 ?_ ?_ ⟨cs.map (·.2), rfl, ?_, fun q => ⟨fun hq => ?_, fun hq => ?_⟩, ?_⟩
    · rw [ec, List.map_map]
      have z : ∀ cs : List (Addr × (Str × Str)), Vals (cs.map fun c => V.ref c.1) (cs.map ((Prod.snd ∘ hrow (tk X.prog X.w)) ∘ fun b => (b.1, [b.2.1, b.2.2]))) := by
        intro cs
        induction cs with
        | nil => exact .nil
        | cons c cs ih => exact .cons rfl ih
      exact z cs
    · have z : ∀ cs : List (Addr × (Str × Str)), (∀ c ∈ cs, c ∈ bs) → KAll H1 (cs.map fun c => V.ref c.1) ((cs.map (·.2)).map prK) := by
        intro cs
        induction cs with
        | nil => exact fun _ => .nil
        | cons c cs ih => exact fun h => .cons (e3 c (h c List.mem_cons_self)) (ih fun d hd => h d (List.mem_cons_of_mem _ hd))
      exact z cs hcs
    · rw [ec, List.map_map] at nd
      refine List.Pairwise.map _ (fun a b hab e => hab ?_) (List.pairwise_map.mp nd)
      show [a.2.1, a.2.2] = [b.2.1, b.2.2]
      rw [e]
    · obtain ⟨c, hc', rfl⟩ := List.mem_map.mp hq
      rw [← e2]
      exact List.mem_map.mpr ⟨c, hcs c hc', rfl⟩
    · rw [← e2] at hq
      obtain ⟨b, hb, rfl⟩ := List.mem_map.mp hq
      have z := g.all (b.1, [b.2.1, b.2.2]) (by rw [List.take_length]; exact List.mem_map.mpr ⟨b, hb, rfl⟩)
      have z2 : [b.2.1, b.2.2] ∈ L'.map (·.2) := (pL.map (·.2)).mem_iff.mpr z
      rw [ec, List.map_map] at z2
      obtain ⟨c, hc', e⟩ := List.mem_map.mp z2
      have e' : [c.2.1, c.2.2] = [b.2.1, b.2.2] := e
      simp only [List.cons.injEq, and_true] at e'
      exact List.mem_map.mpr ⟨c, hc', Prod.ext e'.1 e'.2⟩
    · have z1 := pL.length_eq
      have z2 := R.few
      rw [ec, List.length_map] at z1
      rw [List.length_map]; omega
  · obtain ⟨qs, rfl, _, _, hl⟩ := hk
    refine prK_sort (fun k hk => ?_) (by rw [List.length_map, sizeLine_eq]; omega)
    obtain ⟨q, _, rfl⟩ := List.mem_map.mp hk
    exact ⟨q, rfl⟩
  · obtain ⟨qs, rfl, h1, h2, _⟩ := hk
    exact q1 p xs' qs hn h1 h2 hk'
end
end CB
/-! CBLib12 -/
set_option Elab.async false
set_option autoImplicit false
set_option linter.all false
set_option maxRecDepth 100000
set_option maxHeartbeats 2000000
/-! Defs that are called where no repr is under way (they call repr). -/
namespace CB
open PySem PySem.Spec PyProof.Rows L2

structure FnG (P : Program) (w : World) (K : PySem.W.Frag) (mg : Str → Option Value) (base : Heap) (k : Nat) (f : Addr) (fd : FuncData) (ps : List Str) (sp : Sp) : Prop where
  len : ∀ vs H Q E, sp vs H Q E → vs.length = ps.length
  go : ∀ (A : Around) (outer : List Env) (s : Shared) (H : Hp) (args : Args) (us : List Value) (vs : List V) (Q : VK) (E : XK), A.guards = some [] → Room k A → Env0 P w K mg base A outer s H → BindsTo s fd args (ps.zip us) → Vals vs us → sp vs H Q E →
    codeAny (model P w) A (.call (.ref f) args) (CR CX0 outer P w H s Q E) s

theorem fn_G {P : Program} {w : World} {K : PySem.W.Frag} {mg : Str → Option Value} {base : Heap} {k : Nat} {f : Addr} {name qual : Str} {params : Arguments} {body : List Stmt} {scope : Scope} {dV kV doc pm cdv ct oc : Value} {an od : Option Addr}
    {osl : Array (Option Value)} {N ps : List Str} {sp : Sp} (lk : K.lookup f = some ⟨oc, od, .func (PySem.W.fnOf name qual params body scope dV kV doc pm an cdv ct), osl⟩) (cd : PySem.W.codeIn K cdv qual = true) (S : FnScope N ps scope) (len : ∀ vs H Q E, sp vs H Q E → vs.length = ps.length)
    (run : ∀ (A : Around) (outer : List Env) (s : Shared) (H : Hp) (vs : List V) (Q : VK) (E : XK), (A.deeper (envOfC qual scope s.heap.objs.size f cdv)).guards = some [] → Room k (A.deeper (envOfC qual scope s.heap.objs.size f cdv)) → sp vs H Q E →
      ∃ t, PSs (cxOf CX0 P w K mg base N qual scope f cdv A outer s H E) body t ∧ t { nx := fun _ H' => Q .non H', rt := Q } (start N vs) H) :
    FnG P w K mg base (k + 1) f (PySem.W.fnOf name qual params body scope dV kV doc pm an cdv ct) ps sp := by
  refine ⟨len, fun A outer s H args us vs Q E hg hr e0 hb rv hs => ?_⟩
  have inK : K.In s.heap := e0.mod.kin.keeps fun b o e => (e0.bs b o e).1
  have nl : s.heap.NoLimit := e0.mod.nolimit.keeps fun b o e => (e0.bs b o e).1
  have kinds : ∀ y ∈ ps.zip us, scope.names.lookup y.1 = some .local ∨ (scope.names.lookup y.1 = some .cell ∧ ((cellsFrom (s.heap.objs.size + 1) scope.names []).lookup y.1).isSome = true) := fun y hy =>
    (S.par y.1 (List.of_mem_zip hy).1).imp id fun q => ⟨q, PySem.W.cellsFrom_some _ _ _ (.inl q)⟩
  refine codeAny_call_function hr.depth (inK _ _ lk) rfl S.co S.gen rfl (PySem.W.codeRec_of inK cd) (hb _ _ _ _ (wpAny_newFunctionEnv_cells S.kind kinds fun env he s1 x => ?_))
  subst he
  refine ⟨nl.keeps x.toInCall.keep, codeAny_func ?_⟩
  obtain ⟨t, pt, ht⟩ := run A outer s H vs Q E (by show A.guards = _; exact hg) (hr.deeper _) hs
  have I0 := inv_start (CX := CX0) (P := P) (w := w) (E := E) (N := N) S hr.hd e0 (len _ _ _ _ hs) rv x
  refine wpAny_mono (pt.run [] s1 (start N vs) H _ I0 ht) (fun fl z hz => ?_) fun _ _ hz => hz
  match fl, hz with
  | .ret u, ⟨v, σ', H', J, r, q⟩ => exact ⟨v, H', J.os, J.bare, J.base, J.hok, r, q⟩
  | .next, ⟨σ', H', J, q⟩ => exact ⟨.non, H', J.os, J.bare, J.base, J.hok, rfl, q⟩
  | .brk, ⟨_, _, _, q⟩ => exact False.elim q
  | .cont, ⟨_, _, _, q⟩ => exact False.elim q

section
variable {X : Cx} {k : Nat} {f : Addr} {fd : FuncData} {ps : List Str} {sp : Sp} {x : Str} {p pos : Pos} {e : Expr} {es : List Expr} {t : TA}
theorem pe_callG (F : FnG X.prog X.w X.K X.mg X.base k f fd ps sp) (hq : X.A.guards = some []) (hr : Room k X.A) (hg : Gl X x) (hm : X.mg x = some (.ref f)) (hk : PySem.W.keepIn X.K (.ref f) = true) (hb : Binds X.K fd ps []) (ha : PA X (e :: es) t) (hdb : (x == ("__debug__" : Str)) = false := by decide)
    (he : starEach (e :: es) X.env = (false, eval e X.env) :: starEach es X.env := by rfl) (hpl : (backTo pos (starEach es X.env)).any (·.1) = false := by rfl) : PE X (.Call (.Name x p) (e :: es) [] pos) (tCall sp [] E0 t) := by
  refine ⟨fun pins s σ H Q I h => wpAny_Call_Name_kw (ld_glob I hg hm ?_ hdb)⟩
  refine PySem.W.callWith_K (h₀ := X.base) I.ok.mod.kin hk (thn (ha.run pos pins s σ H _ I h) fun us s1 ⟨vs, H1, I1, rv, q⟩ => ⟨I1.kIn, ?_⟩) he hpl
  have q' : sp vs H1 Q E0 := by simpa using q
  have hl : (us ++ ([] : List Value)).length = ps.length := by rw [List.append_nil, ← rv.length]; exact F.len _ _ _ _ q'
  refine wpAny_call (codeAny_mono (F.go X.A X.stack s1 H1 ⟨us, []⟩ us vs Q E0 hq hr I1.env0 (by simpa using hb s1 us I1.kIn hl) rv q') fun r z hz => ?_)
  match r, hz with
  | .ok (.ret u), hz => exact I1.after hz
  | .ok .next, hz => exact False.elim hz
  | .ok .brk, hz => exact False.elim hz
  | .ok .cont, hz => exact False.elim hz
  | .error e, hz => exact False.elim hz
end

/-- the law's call, at the end of the top -/
theorem call_G {P : Program} {w : World} {K : PySem.W.Frag} {mg mb : Str → Option Value} {k : Nat} {fa a : Addr} {fd : FuncData} {x : Str} {sp : Sp} {z : Shared} {vs : List Value} {ns : List Int} (inK : K.In z.heap) (n1 : z.heap.Ns mainGlobals mg) (n2 : z.heap.Ns builtinsNs mb)
    (n3 : ∀ x : Str, x ≠ "__name__" → mb x = bootBuiltins x) (nl : z.heap.NoLimit) (ng : z.gens = #[]) (ha : z.heap.get? a = some { cls := .type "list", data := .seq vs.toArray }) (hi : IntsAre vs ns) (hl : ns.length ≤ sizeLine) (hr : Room k callerA)
    (F : ∀ base : Heap, K.In base → base.Ns mainGlobals mg → FnG P w K mg base k fa fd [x] sp) (hb : ∀ (s : Shared) (u : Value), BindsTo s fd ⟨[u], []⟩ [(x, u)])
    (hsp : ∀ H : Hp, Only H → SqL K H a (ns.map V.int) → sp [.ref a] H (fun v _ => v = .bl true) E0) :
    codeAny (model P w) callerA (.call (.ref fa) ⟨[.ref a], []⟩) (fun r s' => r = .ok (.ret (.bool true)) ∧ OldK z.heap s'.heap ∧ s'.os = z.os ∧ AllBare s'.gens) z := by
  have rv := vals_ints hi
  have lv := hi.length
  have main : ∀ H : Hp, Only H → SqL K H a (ns.map V.int) → HOk P w H z.heap → (∀ b u, H b = some u → b = a ∧ K.lookup a = none) →
      codeAny (model P w) callerA (.call (.ref fa) ⟨[.ref a], []⟩) (fun r s' => r = .ok (.ret (.bool true)) ∧ OldK z.heap s'.heap ∧ s'.os = z.os ∧ AllBare s'.gens) z := by
    intro H only sq ok at_
    have free : ∀ {b : Addr} {o : Obj}, z.heap.get? b = some o → o ≠ { cls := .type "list", data := .seq vs.toArray } → H b = none := fun {b o} e ne => by
      cases q : H b with
      | none => rfl
      | some u =>
        obtain ⟨rfl, _⟩ := at_ b u q
        rw [ha] at e
        exact absurd (Option.some.inj e).symm ne
    have ns : ∀ {b : Addr} {m : Str → Option Value}, z.heap.Ns b m → (hidT z.heap H).Ns b m := fun {b m} ⟨o, es, ep, e, d, r⟩ =>
      ⟨o, es, ep, hidT_get e (free e fun q => by rw [q] at d; cases d), d, r⟩
    have inB : K.In (hidT z.heap H) := fun b o e => hidT_get (inK b o e) (by
      cases q : H b with
      | none => rfl
      | some u =>
        obtain ⟨rfl, q2⟩ := at_ b u q
        rw [q2] at e; cases e)
    have md : Mod K mg (hidT z.heap H) := ⟨inB, ns n1, ⟨mb, ns n2, n3⟩, let ⟨mc, h1, h2⟩ := nl; ⟨mc, ns h1, h2⟩⟩
    have e0 : Env0 P w K mg (hidT z.heap H) callerA [] z H := ⟨rfl, md, fun b o e => of_hidT e, Nat.le_of_eq (hidT_size _ _), trivial, fun b q => (by cases q), ok, .of_eq ng⟩
    refine codeAny_mono ((F _ inB (ns n1)).go callerA [] z H ⟨[.ref a], []⟩ [.ref a] [.ref a] _ _ rfl hr e0 (hb z (.ref a)) (.cons rfl .nil) (hsp H only sq)) fun r s' h => ?_
    match r, h with
    | .error e, h => exact False.elim h
    | .ok .next, h => exact False.elim h
    | .ok .brk, h => exact False.elim h
    | .ok .cont, h => exact False.elim h
    | .ok (.ret u), ⟨v, H', os, bare, un, ok', r', q⟩ =>
      obtain rfl : v = .bl true := q
      obtain rfl : u = Value.bool true := r'
      refine ⟨rfl, OldK.of_keep fun b o e => ?_, os, bare⟩
      rcases only b with q | ⟨w1, xs, q⟩
      · exact un.keep b o e q (fun m => by cases m) (by simp)
      · have g1 := (ok b _ q).1
        rw [e] at g1
        cases g1
        exact (ok' b _ (un.frzs b _ _ q)).1
  cases hk : K.lookup a with
  | some o =>
    have e := inK a o hk
    rw [ha] at e
    cases e
    exact main (fun _ => none) (fun _ => .inl rfl) (.inr ⟨_, vs.toArray, _, hk, rfl, rfl, rfl, by rw [List.size_toArray, lv]; exact hl, by simpa using rv⟩) (fun b u q => by cases q) fun b u q => by cases q
  | none =>
    have on : ∀ b, (if b = a then some (HO.frz { cls := .type "list", data := .seq vs.toArray } (.lst (ns.map V.int))) else none) = none ∨ ∃ o xs, (if b = a then some (HO.frz { cls := .type "list", data := .seq vs.toArray } (.lst (ns.map V.int))) else none) = some (.frz o (.lst xs)) := fun b => by
      by_cases q : b = a
      · exact .inr ⟨_, _, if_pos q⟩
      · exact .inl (if_neg q)
    refine main (fun b => if b = a then some (.frz { cls := .type "list", data := .seq vs.toArray } (.lst (ns.map V.int))) else none) on (.inl (.inr ⟨{ cls := .type "list", data := .seq vs.toArray }, if_pos rfl⟩)) (fun b u q => ?_) fun b u q => ?_
    · by_cases e : b = a
      · subst e
        obtain rfl := Option.some.inj ((if_pos rfl).symm.trans q)
        exact ⟨ha, by rw [List.length_map]; exact hl, vs, _, rv, ha⟩
      · exact absurd ((if_neg e).symm.trans q) (by simp)
    · by_cases e : b = a
      · exact ⟨e, hk⟩
      · exact absurd ((if_neg e).symm.trans q) (by simp)

theorem walk_G {l : PySem.W.OpenLaw} {n k : Nat} {q : Program} {loose : List Str} {XP : (Str → Option Value) → Heap → Prop} {YP : World → Heap → Prop} {d : DefRec} {K : Params → PySem.W.Frag} {sp : World → Sp} {x : Str} (hn : l.most = some n) (hn2 : n ≤ sizeLine) (hdf : d.params.defaults = [])
    (hr : Room k callerA) (hY : ∀ (w : World) (h : Heap), YP w h → (K w.params).In h)
    (F : ∀ (w : World) (mg : Str → Option Value) (fa : Addr) (h : Heap), (K w.params).In h → h.Ns mainGlobals mg → mg d.name = some (.ref fa) → ∃ fd : FuncData, (∀ (s : Shared) (u : Value), BindsTo s fd ⟨[u], []⟩ [(x, u)]) ∧
        ∀ base : Heap, (K w.params).In base → base.Ns mainGlobals mg → FnG l.prog w (K w.params) mg base k fa fd [x] (sp w))
    (hsp : ∀ (w : World) (H : Hp) (a : Addr) (ns : List Int), ns.length ≤ n → Only H → SqL (K w.params) H a (ns.map V.int) → sp w [.ref a] H (fun v _ => v = .bl true) E0) :
    PySem.W.WalkO q loose XP YP l.row.toRowW d [] (fun f vs => PySem.call f vs) :=
  Att.attach_call hn hdf fun w s₀ s₁ mg mb fa o pm cd doc a vs ns G Y ho hd hcd hmg hobj hints hlen hg => by
    obtain ⟨fd, hb, hF⟩ := F w mg fa _ (hY w _ Y) G.T.g hmg
    exact call_G (hY w _ Y) G.T.g G.T.b G.T.builtins G.T.nolimit hg hobj hints (Nat.le_trans hlen hn2) hr hF hb fun H hO hS => hsp w H a ns hlen hO hS
end CB
/-! CBTop -/
set_option Elab.async false
set_option autoImplicit false
set_option linter.all false
set_option maxRecDepth 100000
set_option maxHeartbeats 2000000
/-! The defs by their places, their scopes, what the top says of them. -/
namespace CB
open PySem PySem.Spec PyProof.Rows L2
def top (i : Nat) : Stmt := PySem.Challenge.pw_cardsback_k27_whole_answer_or_due.main.body.getD i (.Pass ⟨0, 0, 0, 0⟩)
abbrev s_page_day : Stmt := top 6
abbrev s_page_kind : Stmt := top 7
abbrev s_names_of : Stmt := top 8
abbrev s_up_to : Stmt := top 10
abbrev s_Houses_init : Stmt := inClass (top 12) 0
abbrev s_Houses_can : Stmt := inClass (top 12) 1
abbrev s_Houses_come : Stmt := inClass (top 12) 2
abbrev s_Houses_do : Stmt := inClass (top 12) 3
abbrev s_Houses_meet : Stmt := inClass (top 12) 4
abbrev s_Houses_ask_standing : Stmt := inClass (top 12) 5
abbrev s_houses_behind : Stmt := top 13
abbrev s_home_of : Stmt := top 14
abbrev s_idle : Stmt := top 15
abbrev s_stays : Stmt := top 19
abbrev s_term_of : Stmt := top 20
abbrev s_Walk_init : Stmt := inClass (top 21) 0
abbrev s_Walk_mourns : Stmt := inClass (top 21) 1
abbrev s_Walk_is_met : Stmt := inClass (top 21) 2
abbrev s_Walk_go : Stmt := inClass (top 21) 3
abbrev s_Walk_part : Stmt := inClass (top 21) 4
abbrev s_Walk_join : Stmt := inClass (top 21) 5
abbrev s_Walk_lay : Stmt := inClass (top 21) 6
abbrev s_Walk_put : Stmt := inClass (top 21) 7
abbrev s_Walk_fall : Stmt := inClass (top 21) 8
abbrev s_Walk_go_to : Stmt := inClass (top 21) 9
abbrev s_Walk_places : Stmt := inClass (top 21) 10
abbrev s_Walk_dues_told : Stmt := inClass (top 21) 11
abbrev s_walked : Stmt := top 22
abbrev s_dues : Stmt := top 23
abbrev s_marks : Stmt := top 24
abbrev s_owes : Stmt := top 26
abbrev s_matters : Stmt := top 27
abbrev s_sums : Stmt := top 28
abbrev s_answered : Stmt := top 30
abbrev s_l_feed : Stmt := top 32
abbrev s_l_draw : Stmt := top 33
abbrev s_l_names : Stmt := top 34
abbrev s_l_home : Stmt := top 35
abbrev s_l_page : Stmt := top 36
abbrev s_l_rank : Stmt := top 37
abbrev s_l_standing_so : Stmt := top 38
abbrev s_l_book : Stmt := top 39
abbrev s_l_case : Stmt := top 40
abbrev s_l_counted : Stmt := top 41
abbrev s_l_right : Stmt := top 42
abbrev s_law : Stmt := top 43
theorem c_page_day : FnScope ["page"] ["page"] (defScope s_page_day) := ⟨rfl, rfl, rfl, by decide +kernel, rfl, by decide +kernel, by decide +kernel⟩
theorem c_page_kind : FnScope ["page"] ["page"] (defScope s_page_kind) := ⟨rfl, rfl, rfl, by decide +kernel, rfl, by decide +kernel, by decide +kernel⟩
theorem c_names_of : FnScope ["page"] ["page"] (defScope s_names_of) := ⟨rfl, rfl, rfl, by decide +kernel, rfl, by decide +kernel, by decide +kernel⟩
theorem c_up_to : FnScope ["book", "day", "page"] ["book", "day"] (defScope s_up_to) := ⟨rfl, rfl, rfl, by decide +kernel, rfl, by decide +kernel, by decide +kernel⟩
theorem c_Houses_init : FnScope ["self"] ["self"] (defScope s_Houses_init) := ⟨rfl, rfl, rfl, by decide +kernel, rfl, by decide +kernel, by decide +kernel⟩
theorem c_Houses_can : FnScope ["self", "page", "name"] ["self", "page"] (defScope s_Houses_can) := ⟨rfl, rfl, rfl, by decide +kernel, rfl, by decide +kernel, by decide +kernel⟩
theorem c_Houses_come : FnScope ["self", "name", "parent", "home"] ["self", "name", "parent", "home"] (defScope s_Houses_come) := ⟨rfl, rfl, rfl, by decide +kernel, rfl, by decide +kernel, by decide +kernel⟩
theorem c_Houses_do : FnScope ["self", "page"] ["self", "page"] (defScope s_Houses_do) := ⟨rfl, rfl, rfl, by decide +kernel, rfl, by decide +kernel, by decide +kernel⟩
theorem c_Houses_meet : FnScope ["self", "page"] ["self", "page"] (defScope s_Houses_meet) := ⟨rfl, rfl, rfl, by decide +kernel, rfl, by decide +kernel, by decide +kernel⟩
theorem c_Houses_ask_standing : FnScope ["self", "name"] ["self", "name"] (defScope s_Houses_ask_standing) := ⟨rfl, rfl, rfl, by decide +kernel, rfl, by decide +kernel, by decide +kernel⟩
theorem c_houses_behind : FnScope ["book", "day", "found", "page"] ["book", "day"] (defScope s_houses_behind) := ⟨rfl, rfl, rfl, by decide +kernel, rfl, by decide +kernel, by decide +kernel⟩
theorem c_home_of : FnScope ["book", "day", "name", "houses"] ["book", "day", "name"] (defScope s_home_of) := ⟨rfl, rfl, rfl, by decide +kernel, rfl, by decide +kernel, by decide +kernel⟩
theorem c_idle : FnScope ["book", "day"] ["book", "day"] (defScope s_idle) := ⟨rfl, rfl, rfl, by decide +kernel, rfl, by decide +kernel, by decide +kernel⟩
theorem c_stays : FnScope ["one", "other"] ["one", "other"] (defScope s_stays) := ⟨rfl, rfl, rfl, by decide +kernel, rfl, by decide +kernel, by decide +kernel⟩
theorem c_term_of : FnScope ["terms", "sort"] ["terms", "sort"] (defScope s_term_of) := ⟨rfl, rfl, rfl, by decide +kernel, rfl, by decide +kernel, by decide +kernel⟩
theorem c_Walk_init : FnScope ["self", "book", "terms"] ["self", "book", "terms"] (defScope s_Walk_init) := ⟨rfl, rfl, rfl, by decide +kernel, rfl, by decide +kernel, by decide +kernel⟩
theorem c_Walk_mourns : FnScope ["self", "name", "day", "first", "last"] ["self", "name", "day"] (defScope s_Walk_mourns) := ⟨rfl, rfl, rfl, by decide +kernel, rfl, by decide +kernel, by decide +kernel⟩
theorem c_Walk_is_met : FnScope ["self", "page", "kind", "day", "one", "other"] ["self", "page"] (defScope s_Walk_is_met) := ⟨rfl, rfl, rfl, by decide +kernel, rfl, by decide +kernel, by decide +kernel⟩
theorem c_Walk_go : FnScope ["self", "page", "kind", "day", "one", "other", "sort", "due", "paid"] ["self", "page"] (defScope s_Walk_go) := ⟨rfl, rfl, rfl, by decide +kernel, rfl, by decide +kernel, by decide +kernel⟩
theorem c_Walk_part : FnScope ["self", "name", "fresh", "due"] ["self", "name", "fresh"] (defScope s_Walk_part) := ⟨rfl, rfl, rfl, by decide +kernel, rfl, by decide +kernel, by decide +kernel⟩
theorem c_Walk_join : FnScope ["self", "name", "gone", "due", "falls", "ower", "owed", "one"] ["self", "name", "gone"] (defScope s_Walk_join) := ⟨rfl, rfl, rfl, by decide +kernel, rfl, by decide +kernel, by decide +kernel⟩
theorem c_Walk_lay : FnScope ["self", "due", "falls", "there"] ["self", "due", "falls"] (defScope s_Walk_lay) := ⟨rfl, rfl, rfl, by decide +kernel, rfl, by decide +kernel, by decide +kernel⟩
theorem c_Walk_put : FnScope ["self", "page", "kind"] ["self", "page"] (defScope s_Walk_put) := ⟨rfl, rfl, rfl, by decide +kernel, rfl, by decide +kernel, by decide +kernel⟩
theorem c_Walk_fall : FnScope ["self", "day", "due", "falls", "left"] ["self", "day"] (defScope s_Walk_fall) := ⟨rfl, rfl, rfl, by decide +kernel, rfl, by decide +kernel, by decide +kernel⟩
theorem c_Walk_go_to : FnScope ["self", "last", "page", "pages", "at", "first", "day"] ["self", "last"] (defScope s_Walk_go_to) := ⟨rfl, rfl, rfl, by decide +kernel, rfl, by decide +kernel, by decide +kernel⟩
theorem c_Walk_places : FnScope ["self", "k", "page"] ["self"] (defScope s_Walk_places) := ⟨rfl, rfl, rfl, by decide +kernel, rfl, by decide +kernel, by decide +kernel⟩
theorem c_Walk_dues_told : FnScope ["self", "at", "rows", "found", "ower", "owed", "k", "page", "due"] ["self"] (defScope s_Walk_dues_told) := ⟨rfl, rfl, rfl, by decide +kernel, rfl, by decide +kernel, by decide +kernel⟩
theorem c_walked : FnScope ["book", "terms", "day", "walk"] ["book", "terms", "day"] (defScope s_walked) := ⟨rfl, rfl, rfl, by decide +kernel, rfl, by decide +kernel, by decide +kernel⟩
theorem c_dues : FnScope ["book", "terms", "day"] ["book", "terms", "day"] (defScope s_dues) := ⟨rfl, rfl, rfl, by decide +kernel, rfl, by decide +kernel, by decide +kernel⟩
theorem c_marks : FnScope ["book", "terms", "day"] ["book", "terms", "day"] (defScope s_marks) := ⟨rfl, rfl, rfl, by decide +kernel, rfl, by decide +kernel, by decide +kernel⟩
theorem c_owes : FnScope ["book", "terms", "day", "a", "b", "due"] ["book", "terms", "day", "a", "b"] (defScope s_owes) := ⟨rfl, rfl, rfl, by decide +kernel, rfl, by decide +kernel, by decide +kernel⟩
theorem c_matters : FnScope ["book", "terms", "day", "found", "due", "pair"] ["book", "terms", "day"] (defScope s_matters) := ⟨rfl, rfl, rfl, by decide +kernel, rfl, by decide +kernel, by decide +kernel⟩
theorem c_sums : FnScope ["book", "terms", "day", "walk", "answered", "page", "paid"] ["book", "terms", "day"] (defScope s_sums) := ⟨rfl, rfl, rfl, by decide +kernel, rfl, by decide +kernel, by decide +kernel⟩
theorem c_answered : FnScope ["book", "terms", "day", "walk", "at", "found", "page", "paid", "rows", "due", "k"] ["book", "terms", "day"] (defScope s_answered) := ⟨rfl, rfl, rfl, by decide +kernel, rfl, by decide +kernel, by decide +kernel⟩
theorem c_l_feed : FnScope ["_law_script"] ["_law_script"] (defScope s_l_feed) := ⟨rfl, rfl, rfl, by decide +kernel, rfl, by decide +kernel, by decide +kernel⟩
theorem c_l_draw : FnScope ["_law_feed_here", "_law_many", "_law_turn", "_law_found", "_law_at", "_law_cell", "_law_mixed"] ["_law_feed_here", "_law_many"] (defScope s_l_draw) := ⟨rfl, rfl, rfl, by decide +kernel, rfl, by decide +kernel, by decide +kernel⟩
theorem c_l_names : FnScope ["_law_feed_here", "_law_way", "_law_some", "_law_letters", "_law_size", "_law_first", "_law_at", "_law_k", "_law_word", "_law_sign"] ["_law_feed_here"] (defScope s_l_names) := ⟨rfl, rfl, rfl, by decide +kernel, rfl, by decide +kernel, by decide +kernel⟩
theorem c_l_home : FnScope ["_law_feed_here", "_law_k"] ["_law_feed_here"] (defScope s_l_home) := ⟨rfl, rfl, rfl, by decide +kernel, rfl, by decide +kernel, by decide +kernel⟩
theorem c_l_page : FnScope ["_law_feed_here", "_law_names_here", "_law_day", "_law_at", "_law_a", "_law_b", "_law_way", "_law_home_here", "_law_long"] ["_law_feed_here", "_law_names_here", "_law_day"] (defScope s_l_page) := ⟨rfl, rfl, rfl, by decide +kernel, rfl, by decide +kernel, by decide +kernel⟩
theorem c_l_rank : FnScope ["_law_page_here", "_law_kinds"] ["_law_page_here"] (defScope s_l_rank) := ⟨rfl, rfl, rfl, by decide +kernel, rfl, by decide +kernel, by decide +kernel⟩
theorem c_l_standing_so : FnScope ["_law_pages", "_law_found", "_law_page_here"] ["_law_pages"] (defScope s_l_standing_so) := ⟨rfl, rfl, rfl, by decide +kernel, rfl, by decide +kernel, by decide +kernel⟩
theorem c_l_book : FnScope ["_law_feed_here", "_law_names_here", "_law_many", "_law_wide", "_law_begin", "_law_pages", "_law_name", "_law_k"] ["_law_feed_here", "_law_names_here", "_law_many", "_law_wide"] (defScope s_l_book) := ⟨rfl, rfl, rfl, by decide +kernel, rfl, by decide +kernel, by decide +kernel⟩
theorem c_l_case : FnScope ["_law_feed_here", "_law_great", "_law_many", "_law_wide", "_law_most", "_law_names_here", "_law_book_here", "_law_terms", "_law_page_here", "_law_k"] ["_law_feed_here"] (defScope s_l_case) := ⟨rfl, rfl, rfl, by decide +kernel, rfl, by decide +kernel, by decide +kernel⟩
theorem c_l_counted : FnScope ["_law_told", "_law_made", "_law_many", "_law_page_here", "_law_mark", "_law_goes"] ["_law_told"] (defScope s_l_counted) := ⟨rfl, rfl, rfl, by decide +kernel, rfl, by decide +kernel, by decide +kernel⟩
theorem c_l_right : FnScope ["_law_book_here", "_law_terms", "_law_day", "_law_told", "_law_paid", "_law_stand", "_law_counted_here", "_law_page_here", "_law_pages", "_law_made", "_law_many", "_law_some", "_law_triples", "_law_one", "_law_six", "_law_pairs", "_law_rows", "_law_a", "_law_b", "_law_count", "_law_pair", "_law_due"] ["_law_book_here", "_law_terms", "_law_day"] (defScope s_l_right) := ⟨rfl, rfl, rfl, by decide +kernel, rfl, by decide +kernel, by decide +kernel⟩
theorem c_law : FnScope ["_law_script", "_law_feed_here", "_law_book_here", "_law_terms", "_law_days", "_law_day"] ["_law_script"] (defScope s_law) := ⟨rfl, rfl, rfl, by decide +kernel, rfl, by decide +kernel, by decide +kernel⟩
def d_page_day : He.DefD := ⟨("page_day", none), "page_day", "page_day", defArgs s_page_day, defBody s_page_day, defScope s_page_day, [], []⟩
def d_page_kind : He.DefD := ⟨("page_kind", none), "page_kind", "page_kind", defArgs s_page_kind, defBody s_page_kind, defScope s_page_kind, [], []⟩
def d_names_of : He.DefD := ⟨("names_of", none), "names_of", "names_of", defArgs s_names_of, defBody s_names_of, defScope s_names_of, [], []⟩
def d_up_to : He.DefD := ⟨("up_to", none), "up_to", "up_to", defArgs s_up_to, defBody s_up_to, defScope s_up_to, [], []⟩
def d_Houses_init : He.DefD := ⟨("Houses", some "__init__"), "__init__", "Houses.__init__", defArgs s_Houses_init, defBody s_Houses_init, defScope s_Houses_init, [], []⟩
def d_Houses_can : He.DefD := ⟨("Houses", some "can"), "can", "Houses.can", defArgs s_Houses_can, defBody s_Houses_can, defScope s_Houses_can, [], []⟩
def d_Houses_come : He.DefD := ⟨("Houses", some "come"), "come", "Houses.come", defArgs s_Houses_come, defBody s_Houses_come, defScope s_Houses_come, [], []⟩
def d_Houses_do : He.DefD := ⟨("Houses", some "do"), "do", "Houses.do", defArgs s_Houses_do, defBody s_Houses_do, defScope s_Houses_do, [], []⟩
def d_Houses_meet : He.DefD := ⟨("Houses", some "meet"), "meet", "Houses.meet", defArgs s_Houses_meet, defBody s_Houses_meet, defScope s_Houses_meet, [], []⟩
def d_Houses_ask_standing : He.DefD := ⟨("Houses", some "ask_standing"), "ask_standing", "Houses.ask_standing", defArgs s_Houses_ask_standing, defBody s_Houses_ask_standing, defScope s_Houses_ask_standing, [], []⟩
def d_houses_behind : He.DefD := ⟨("houses_behind", none), "houses_behind", "houses_behind", defArgs s_houses_behind, defBody s_houses_behind, defScope s_houses_behind, [], []⟩
def d_home_of : He.DefD := ⟨("home_of", none), "home_of", "home_of", defArgs s_home_of, defBody s_home_of, defScope s_home_of, [], []⟩
def d_idle : He.DefD := ⟨("idle", none), "idle", "idle", defArgs s_idle, defBody s_idle, defScope s_idle, [], []⟩
def d_stays : He.DefD := ⟨("stays", none), "stays", "stays", defArgs s_stays, defBody s_stays, defScope s_stays, [], []⟩
def d_term_of : He.DefD := ⟨("term_of", none), "term_of", "term_of", defArgs s_term_of, defBody s_term_of, defScope s_term_of, [], []⟩
def d_Walk_init : He.DefD := ⟨("Walk", some "__init__"), "__init__", "Walk.__init__", defArgs s_Walk_init, defBody s_Walk_init, defScope s_Walk_init, [], []⟩
def d_Walk_mourns : He.DefD := ⟨("Walk", some "mourns"), "mourns", "Walk.mourns", defArgs s_Walk_mourns, defBody s_Walk_mourns, defScope s_Walk_mourns, [], []⟩
def d_Walk_is_met : He.DefD := ⟨("Walk", some "is_met"), "is_met", "Walk.is_met", defArgs s_Walk_is_met, defBody s_Walk_is_met, defScope s_Walk_is_met, [], []⟩
def d_Walk_go : He.DefD := ⟨("Walk", some "go"), "go", "Walk.go", defArgs s_Walk_go, defBody s_Walk_go, defScope s_Walk_go, [], []⟩
def d_Walk_part : He.DefD := ⟨("Walk", some "part"), "part", "Walk.part", defArgs s_Walk_part, defBody s_Walk_part, defScope s_Walk_part, [], []⟩
def d_Walk_join : He.DefD := ⟨("Walk", some "join"), "join", "Walk.join", defArgs s_Walk_join, defBody s_Walk_join, defScope s_Walk_join, [], []⟩
def d_Walk_lay : He.DefD := ⟨("Walk", some "lay"), "lay", "Walk.lay", defArgs s_Walk_lay, defBody s_Walk_lay, defScope s_Walk_lay, [], []⟩
def d_Walk_put : He.DefD := ⟨("Walk", some "put"), "put", "Walk.put", defArgs s_Walk_put, defBody s_Walk_put, defScope s_Walk_put, [], []⟩
def d_Walk_fall : He.DefD := ⟨("Walk", some "fall"), "fall", "Walk.fall", defArgs s_Walk_fall, defBody s_Walk_fall, defScope s_Walk_fall, [], []⟩
def d_Walk_go_to : He.DefD := ⟨("Walk", some "go_to"), "go_to", "Walk.go_to", defArgs s_Walk_go_to, defBody s_Walk_go_to, defScope s_Walk_go_to, [], []⟩
def d_Walk_places : He.DefD := ⟨("Walk", some "places"), "places", "Walk.places", defArgs s_Walk_places, defBody s_Walk_places, defScope s_Walk_places, [], []⟩
def d_Walk_dues_told : He.DefD := ⟨("Walk", some "dues_told"), "dues_told", "Walk.dues_told", defArgs s_Walk_dues_told, defBody s_Walk_dues_told, defScope s_Walk_dues_told, [], []⟩
def d_walked : He.DefD := ⟨("walked", none), "walked", "walked", defArgs s_walked, defBody s_walked, defScope s_walked, [], []⟩
def d_dues : He.DefD := ⟨("dues", none), "dues", "dues", defArgs s_dues, defBody s_dues, defScope s_dues, [], []⟩
def d_marks : He.DefD := ⟨("marks", none), "marks", "marks", defArgs s_marks, defBody s_marks, defScope s_marks, [], []⟩
def d_owes : He.DefD := ⟨("owes", none), "owes", "owes", defArgs s_owes, defBody s_owes, defScope s_owes, [], []⟩
def d_matters : He.DefD := ⟨("matters", none), "matters", "matters", defArgs s_matters, defBody s_matters, defScope s_matters, [], []⟩
def d_sums : He.DefD := ⟨("sums", none), "sums", "sums", defArgs s_sums, defBody s_sums, defScope s_sums, [], []⟩
def d_answered : He.DefD := ⟨("answered", none), "answered", "answered", defArgs s_answered, defBody s_answered, defScope s_answered, [], []⟩
def d_l_feed : He.DefD := ⟨("_law_feed", none), "_law_feed", "_law_feed", defArgs s_l_feed, defBody s_l_feed, defScope s_l_feed, [], []⟩
def d_l_draw : He.DefD := ⟨("_law_draw", none), "_law_draw", "_law_draw", defArgs s_l_draw, defBody s_l_draw, defScope s_l_draw, [], []⟩
def d_l_names : He.DefD := ⟨("_law_names", none), "_law_names", "_law_names", defArgs s_l_names, defBody s_l_names, defScope s_l_names, [], []⟩
def d_l_home : He.DefD := ⟨("_law_home", none), "_law_home", "_law_home", defArgs s_l_home, defBody s_l_home, defScope s_l_home, [], []⟩
def d_l_page : He.DefD := ⟨("_law_page", none), "_law_page", "_law_page", defArgs s_l_page, defBody s_l_page, defScope s_l_page, [], []⟩
def d_l_rank : He.DefD := ⟨("_law_rank", none), "_law_rank", "_law_rank", defArgs s_l_rank, defBody s_l_rank, defScope s_l_rank, [], []⟩
def d_l_standing_so : He.DefD := ⟨("_law_standing_so", none), "_law_standing_so", "_law_standing_so", defArgs s_l_standing_so, defBody s_l_standing_so, defScope s_l_standing_so, [], []⟩
def d_l_book : He.DefD := ⟨("_law_book", none), "_law_book", "_law_book", defArgs s_l_book, defBody s_l_book, defScope s_l_book, [], []⟩
def d_l_case : He.DefD := ⟨("_law_case", none), "_law_case", "_law_case", defArgs s_l_case, defBody s_l_case, defScope s_l_case, [], []⟩
def d_l_counted : He.DefD := ⟨("_law_counted", none), "_law_counted", "_law_counted", defArgs s_l_counted, defBody s_l_counted, defScope s_l_counted, [], []⟩
def d_l_right : He.DefD := ⟨("_law_right", none), "_law_right", "_law_right", defArgs s_l_right, defBody s_l_right, defScope s_l_right, [], []⟩
def d_law : He.DefD := ⟨("law", none), "law", "law", defArgs s_law, defBody s_law, defScope s_law, [], []⟩
def fns : List He.DefD := [d_page_day, d_page_kind, d_names_of, d_up_to, d_Houses_init, d_Houses_can, d_Houses_come, d_Houses_do, d_Houses_meet, d_Houses_ask_standing, d_houses_behind, d_home_of, d_idle, d_stays, d_term_of, d_Walk_init, d_Walk_mourns, d_Walk_is_met, d_Walk_go, d_Walk_part, d_Walk_join, d_Walk_lay, d_Walk_put, d_Walk_fall, d_Walk_go_to, d_Walk_places, d_Walk_dues_told, d_walked, d_dues, d_marks, d_owes, d_matters, d_sums, d_answered, d_l_feed, d_l_draw, d_l_names, d_l_home, d_l_page, d_l_rank, d_l_standing_so, d_l_book, d_l_case, d_l_counted, d_l_right, d_law]
def facts : List He.Fa := [.glo "page_day", .glo "page_kind", .glo "names_of", .glo "up_to", .glo "houses_behind", .glo "home_of", .glo "idle", .glo "stays", .glo "term_of", .glo "walked", .glo "dues", .glo "marks", .glo "owes", .glo "matters", .glo "sums", .glo "answered", .glo "_law_feed", .glo "_law_draw", .glo "_law_names", .glo "_law_home", .glo "_law_page", .glo "_law_rank", .glo "_law_standing_so", .glo "_law_book", .glo "_law_case", .glo "_law_counted", .glo "_law_right", .glo "law", .glo "Houses", .glo "Walk", .glo "ALONE", .glo "GOINGS", .glo "NoHouse", .free "all", .free "any", .free "dict", .free "enumerate", .free "int", .free "len", .free "list", .free "range", .free "repr", .free "set", .free "sorted", .free "sum", .free "tuple", .int "WEEK" 7, .cls "Houses", .cls "Walk", .mkr "Houses", .mkr "Walk", .noat "Houses" "homes", .noat "Houses" "parents", .noat "Houses" "joined", .noat "Houses" "mourned", .noat "Houses" "idle_pages", .noat "Walk" "own_pages", .noat "Walk" "own_terms", .noat "Walk" "lost", .noat "Walk" "homes", .noat "Walk" "mourned", .noat "Walk" "sorts", .noat "Walk" "falls", .noat "Walk" "marks", .noat "Walk" "answers", .noat "Walk" "made", .noat "Walk" "copied", .noat "Walk" "struck", .noat "Walk" "merged", .meth "Houses" "__init__", .meth "Houses" "can", .meth "Houses" "come", .meth "Houses" "do", .meth "Houses" "meet", .meth "Houses" "ask_standing", .meth "Walk" "__init__", .meth "Walk" "mourns", .meth "Walk" "is_met", .meth "Walk" "go", .meth "Walk" "part", .meth "Walk" "join", .meth "Walk" "lay", .meth "Walk" "put", .meth "Walk" "fall", .meth "Walk" "go_to", .meth "Walk" "places", .meth "Walk" "dues_told"]
def more (K : PySem.W.Frag) : Bool := He.tupB K "ALONE" [.str "house", .str "home", .str "mourn"] && He.tupB K "GOINGS" [.str "card", .str "visit"]
/-- what the top leaves -/
structure Tp (K : PySem.W.Frag) (mg : Str → Option Value) : Prop where
  says : He.SaysD facts fns K
  more : more K = true
  heap : ∃ h : Heap, K.In h ∧ h.Ns mainGlobals mg
section
variable {K : PySem.W.Frag} {mg : Str → Option Value} (T : Tp K mg)
include T
theorem Tp.g_page_day : mg "page_day" = some (.ref (He.ga K "page_day")) := let ⟨_, X, G⟩ := T.heap; He.glo_ok X G (T.says.fact 0 (f := .glo "page_day") rfl)
theorem Tp.g_page_kind : mg "page_kind" = some (.ref (He.ga K "page_kind")) := let ⟨_, X, G⟩ := T.heap; He.glo_ok X G (T.says.fact 1 (f := .glo "page_kind") rfl)
theorem Tp.g_names_of : mg "names_of" = some (.ref (He.ga K "names_of")) := let ⟨_, X, G⟩ := T.heap; He.glo_ok X G (T.says.fact 2 (f := .glo "names_of") rfl)
theorem Tp.g_up_to : mg "up_to" = some (.ref (He.ga K "up_to")) := let ⟨_, X, G⟩ := T.heap; He.glo_ok X G (T.says.fact 3 (f := .glo "up_to") rfl)
theorem Tp.g_houses_behind : mg "houses_behind" = some (.ref (He.ga K "houses_behind")) := let ⟨_, X, G⟩ := T.heap; He.glo_ok X G (T.says.fact 4 (f := .glo "houses_behind") rfl)
theorem Tp.g_home_of : mg "home_of" = some (.ref (He.ga K "home_of")) := let ⟨_, X, G⟩ := T.heap; He.glo_ok X G (T.says.fact 5 (f := .glo "home_of") rfl)
theorem Tp.g_idle : mg "idle" = some (.ref (He.ga K "idle")) := let ⟨_, X, G⟩ := T.heap; He.glo_ok X G (T.says.fact 6 (f := .glo "idle") rfl)
theorem Tp.g_stays : mg "stays" = some (.ref (He.ga K "stays")) := let ⟨_, X, G⟩ := T.heap; He.glo_ok X G (T.says.fact 7 (f := .glo "stays") rfl)
theorem Tp.g_term_of : mg "term_of" = some (.ref (He.ga K "term_of")) := let ⟨_, X, G⟩ := T.heap; He.glo_ok X G (T.says.fact 8 (f := .glo "term_of") rfl)
theorem Tp.g_walked : mg "walked" = some (.ref (He.ga K "walked")) := let ⟨_, X, G⟩ := T.heap; He.glo_ok X G (T.says.fact 9 (f := .glo "walked") rfl)
theorem Tp.g_dues : mg "dues" = some (.ref (He.ga K "dues")) := let ⟨_, X, G⟩ := T.heap; He.glo_ok X G (T.says.fact 10 (f := .glo "dues") rfl)
theorem Tp.g_marks : mg "marks" = some (.ref (He.ga K "marks")) := let ⟨_, X, G⟩ := T.heap; He.glo_ok X G (T.says.fact 11 (f := .glo "marks") rfl)
theorem Tp.g_owes : mg "owes" = some (.ref (He.ga K "owes")) := let ⟨_, X, G⟩ := T.heap; He.glo_ok X G (T.says.fact 12 (f := .glo "owes") rfl)
theorem Tp.g_matters : mg "matters" = some (.ref (He.ga K "matters")) := let ⟨_, X, G⟩ := T.heap; He.glo_ok X G (T.says.fact 13 (f := .glo "matters") rfl)
theorem Tp.g_sums : mg "sums" = some (.ref (He.ga K "sums")) := let ⟨_, X, G⟩ := T.heap; He.glo_ok X G (T.says.fact 14 (f := .glo "sums") rfl)
theorem Tp.g_answered : mg "answered" = some (.ref (He.ga K "answered")) := let ⟨_, X, G⟩ := T.heap; He.glo_ok X G (T.says.fact 15 (f := .glo "answered") rfl)
theorem Tp.g_l_feed : mg "_law_feed" = some (.ref (He.ga K "_law_feed")) := let ⟨_, X, G⟩ := T.heap; He.glo_ok X G (T.says.fact 16 (f := .glo "_law_feed") rfl)
theorem Tp.g_l_draw : mg "_law_draw" = some (.ref (He.ga K "_law_draw")) := let ⟨_, X, G⟩ := T.heap; He.glo_ok X G (T.says.fact 17 (f := .glo "_law_draw") rfl)
theorem Tp.g_l_names : mg "_law_names" = some (.ref (He.ga K "_law_names")) := let ⟨_, X, G⟩ := T.heap; He.glo_ok X G (T.says.fact 18 (f := .glo "_law_names") rfl)
theorem Tp.g_l_home : mg "_law_home" = some (.ref (He.ga K "_law_home")) := let ⟨_, X, G⟩ := T.heap; He.glo_ok X G (T.says.fact 19 (f := .glo "_law_home") rfl)
theorem Tp.g_l_page : mg "_law_page" = some (.ref (He.ga K "_law_page")) := let ⟨_, X, G⟩ := T.heap; He.glo_ok X G (T.says.fact 20 (f := .glo "_law_page") rfl)
theorem Tp.g_l_rank : mg "_law_rank" = some (.ref (He.ga K "_law_rank")) := let ⟨_, X, G⟩ := T.heap; He.glo_ok X G (T.says.fact 21 (f := .glo "_law_rank") rfl)
theorem Tp.g_l_standing_so : mg "_law_standing_so" = some (.ref (He.ga K "_law_standing_so")) := let ⟨_, X, G⟩ := T.heap; He.glo_ok X G (T.says.fact 22 (f := .glo "_law_standing_so") rfl)
theorem Tp.g_l_book : mg "_law_book" = some (.ref (He.ga K "_law_book")) := let ⟨_, X, G⟩ := T.heap; He.glo_ok X G (T.says.fact 23 (f := .glo "_law_book") rfl)
theorem Tp.g_l_case : mg "_law_case" = some (.ref (He.ga K "_law_case")) := let ⟨_, X, G⟩ := T.heap; He.glo_ok X G (T.says.fact 24 (f := .glo "_law_case") rfl)
theorem Tp.g_l_counted : mg "_law_counted" = some (.ref (He.ga K "_law_counted")) := let ⟨_, X, G⟩ := T.heap; He.glo_ok X G (T.says.fact 25 (f := .glo "_law_counted") rfl)
theorem Tp.g_l_right : mg "_law_right" = some (.ref (He.ga K "_law_right")) := let ⟨_, X, G⟩ := T.heap; He.glo_ok X G (T.says.fact 26 (f := .glo "_law_right") rfl)
theorem Tp.g_law : mg "law" = some (.ref (He.ga K "law")) := let ⟨_, X, G⟩ := T.heap; He.glo_ok X G (T.says.fact 27 (f := .glo "law") rfl)
theorem Tp.g_Houses : mg "Houses" = some (.ref (He.ga K "Houses")) := let ⟨_, X, G⟩ := T.heap; He.glo_ok X G (T.says.fact 28 (f := .glo "Houses") rfl)
theorem Tp.g_Walk : mg "Walk" = some (.ref (He.ga K "Walk")) := let ⟨_, X, G⟩ := T.heap; He.glo_ok X G (T.says.fact 29 (f := .glo "Walk") rfl)
theorem Tp.g_ALONE : mg "ALONE" = some (.ref (He.ga K "ALONE")) := let ⟨_, X, G⟩ := T.heap; He.glo_ok X G (T.says.fact 30 (f := .glo "ALONE") rfl)
theorem Tp.g_GOINGS : mg "GOINGS" = some (.ref (He.ga K "GOINGS")) := let ⟨_, X, G⟩ := T.heap; He.glo_ok X G (T.says.fact 31 (f := .glo "GOINGS") rfl)
theorem Tp.g_NoHouse : mg "NoHouse" = some (.ref (He.ga K "NoHouse")) := let ⟨_, X, G⟩ := T.heap; He.glo_ok X G (T.says.fact 32 (f := .glo "NoHouse") rfl)
theorem Tp.b_all : mg "all" = none := let ⟨_, X, G⟩ := T.heap; He.free_ok X G (T.says.fact 33 (f := .free "all") rfl)
theorem Tp.b_any : mg "any" = none := let ⟨_, X, G⟩ := T.heap; He.free_ok X G (T.says.fact 34 (f := .free "any") rfl)
theorem Tp.b_dict : mg "dict" = none := let ⟨_, X, G⟩ := T.heap; He.free_ok X G (T.says.fact 35 (f := .free "dict") rfl)
theorem Tp.b_enumerate : mg "enumerate" = none := let ⟨_, X, G⟩ := T.heap; He.free_ok X G (T.says.fact 36 (f := .free "enumerate") rfl)
theorem Tp.b_int : mg "int" = none := let ⟨_, X, G⟩ := T.heap; He.free_ok X G (T.says.fact 37 (f := .free "int") rfl)
theorem Tp.b_len : mg "len" = none := let ⟨_, X, G⟩ := T.heap; He.free_ok X G (T.says.fact 38 (f := .free "len") rfl)
theorem Tp.b_list : mg "list" = none := let ⟨_, X, G⟩ := T.heap; He.free_ok X G (T.says.fact 39 (f := .free "list") rfl)
theorem Tp.b_range : mg "range" = none := let ⟨_, X, G⟩ := T.heap; He.free_ok X G (T.says.fact 40 (f := .free "range") rfl)
theorem Tp.b_repr : mg "repr" = none := let ⟨_, X, G⟩ := T.heap; He.free_ok X G (T.says.fact 41 (f := .free "repr") rfl)
theorem Tp.b_set : mg "set" = none := let ⟨_, X, G⟩ := T.heap; He.free_ok X G (T.says.fact 42 (f := .free "set") rfl)
theorem Tp.b_sorted : mg "sorted" = none := let ⟨_, X, G⟩ := T.heap; He.free_ok X G (T.says.fact 43 (f := .free "sorted") rfl)
theorem Tp.b_sum : mg "sum" = none := let ⟨_, X, G⟩ := T.heap; He.free_ok X G (T.says.fact 44 (f := .free "sum") rfl)
theorem Tp.b_tuple : mg "tuple" = none := let ⟨_, X, G⟩ := T.heap; He.free_ok X G (T.says.fact 45 (f := .free "tuple") rfl)
theorem Tp.i_WEEK : ∃ t, mg "WEEK" = some (.int 7 t) := let ⟨_, X, G⟩ := T.heap; He.int_ok X G (T.says.fact 46 (f := .int "WEEK" 7) rfl)
theorem Tp.cl_Houses : Cls K (He.ga K "Houses") := He.cls_ok (T.says.fact 47 (f := .cls "Houses") rfl)
theorem Tp.cl_Walk : Cls K (He.ga K "Walk") := He.cls_ok (T.says.fact 48 (f := .cls "Walk") rfl)
theorem Tp.mk_Houses : Mk K (He.ga K "Houses") (He.fAd K ("Houses", some "__init__")) := He.mkr_ok (T.says.fact 49 (f := .mkr "Houses") rfl)
theorem Tp.mk_Walk : Mk K (He.ga K "Walk") (He.fAd K ("Walk", some "__init__")) := He.mkr_ok (T.says.fact 50 (f := .mkr "Walk") rfl)
theorem Tp.n_Houses_homes : NoAttr K (He.ga K "Houses") "homes" := He.noat_ok (T.says.fact 51 (f := .noat "Houses" "homes") rfl)
theorem Tp.n_Houses_parents : NoAttr K (He.ga K "Houses") "parents" := He.noat_ok (T.says.fact 52 (f := .noat "Houses" "parents") rfl)
theorem Tp.n_Houses_joined : NoAttr K (He.ga K "Houses") "joined" := He.noat_ok (T.says.fact 53 (f := .noat "Houses" "joined") rfl)
theorem Tp.n_Houses_mourned : NoAttr K (He.ga K "Houses") "mourned" := He.noat_ok (T.says.fact 54 (f := .noat "Houses" "mourned") rfl)
theorem Tp.n_Houses_idle_pages : NoAttr K (He.ga K "Houses") "idle_pages" := He.noat_ok (T.says.fact 55 (f := .noat "Houses" "idle_pages") rfl)
theorem Tp.n_Walk_own_pages : NoAttr K (He.ga K "Walk") "own_pages" := He.noat_ok (T.says.fact 56 (f := .noat "Walk" "own_pages") rfl)
theorem Tp.n_Walk_own_terms : NoAttr K (He.ga K "Walk") "own_terms" := He.noat_ok (T.says.fact 57 (f := .noat "Walk" "own_terms") rfl)
theorem Tp.n_Walk_lost : NoAttr K (He.ga K "Walk") "lost" := He.noat_ok (T.says.fact 58 (f := .noat "Walk" "lost") rfl)
theorem Tp.n_Walk_homes : NoAttr K (He.ga K "Walk") "homes" := He.noat_ok (T.says.fact 59 (f := .noat "Walk" "homes") rfl)
theorem Tp.n_Walk_mourned : NoAttr K (He.ga K "Walk") "mourned" := He.noat_ok (T.says.fact 60 (f := .noat "Walk" "mourned") rfl)
theorem Tp.n_Walk_sorts : NoAttr K (He.ga K "Walk") "sorts" := He.noat_ok (T.says.fact 61 (f := .noat "Walk" "sorts") rfl)
theorem Tp.n_Walk_falls : NoAttr K (He.ga K "Walk") "falls" := He.noat_ok (T.says.fact 62 (f := .noat "Walk" "falls") rfl)
theorem Tp.n_Walk_marks : NoAttr K (He.ga K "Walk") "marks" := He.noat_ok (T.says.fact 63 (f := .noat "Walk" "marks") rfl)
theorem Tp.n_Walk_answers : NoAttr K (He.ga K "Walk") "answers" := He.noat_ok (T.says.fact 64 (f := .noat "Walk" "answers") rfl)
theorem Tp.n_Walk_made : NoAttr K (He.ga K "Walk") "made" := He.noat_ok (T.says.fact 65 (f := .noat "Walk" "made") rfl)
theorem Tp.n_Walk_copied : NoAttr K (He.ga K "Walk") "copied" := He.noat_ok (T.says.fact 66 (f := .noat "Walk" "copied") rfl)
theorem Tp.n_Walk_struck : NoAttr K (He.ga K "Walk") "struck" := He.noat_ok (T.says.fact 67 (f := .noat "Walk" "struck") rfl)
theorem Tp.n_Walk_merged : NoAttr K (He.ga K "Walk") "merged" := He.noat_ok (T.says.fact 68 (f := .noat "Walk" "merged") rfl)
theorem Tp.m_Houses_init : Meth K (He.ga K "Houses") "__init__" (He.fAd K ("Houses", some "__init__")) := He.meth_ok (T.says.fact 69 (f := .meth "Houses" "__init__") rfl)
theorem Tp.m_Houses_can : Meth K (He.ga K "Houses") "can" (He.fAd K ("Houses", some "can")) := He.meth_ok (T.says.fact 70 (f := .meth "Houses" "can") rfl)
theorem Tp.m_Houses_come : Meth K (He.ga K "Houses") "come" (He.fAd K ("Houses", some "come")) := He.meth_ok (T.says.fact 71 (f := .meth "Houses" "come") rfl)
theorem Tp.m_Houses_do : Meth K (He.ga K "Houses") "do" (He.fAd K ("Houses", some "do")) := He.meth_ok (T.says.fact 72 (f := .meth "Houses" "do") rfl)
theorem Tp.m_Houses_meet : Meth K (He.ga K "Houses") "meet" (He.fAd K ("Houses", some "meet")) := He.meth_ok (T.says.fact 73 (f := .meth "Houses" "meet") rfl)
theorem Tp.m_Houses_ask_standing : Meth K (He.ga K "Houses") "ask_standing" (He.fAd K ("Houses", some "ask_standing")) := He.meth_ok (T.says.fact 74 (f := .meth "Houses" "ask_standing") rfl)
theorem Tp.m_Walk_init : Meth K (He.ga K "Walk") "__init__" (He.fAd K ("Walk", some "__init__")) := He.meth_ok (T.says.fact 75 (f := .meth "Walk" "__init__") rfl)
theorem Tp.m_Walk_mourns : Meth K (He.ga K "Walk") "mourns" (He.fAd K ("Walk", some "mourns")) := He.meth_ok (T.says.fact 76 (f := .meth "Walk" "mourns") rfl)
theorem Tp.m_Walk_is_met : Meth K (He.ga K "Walk") "is_met" (He.fAd K ("Walk", some "is_met")) := He.meth_ok (T.says.fact 77 (f := .meth "Walk" "is_met") rfl)
theorem Tp.m_Walk_go : Meth K (He.ga K "Walk") "go" (He.fAd K ("Walk", some "go")) := He.meth_ok (T.says.fact 78 (f := .meth "Walk" "go") rfl)
theorem Tp.m_Walk_part : Meth K (He.ga K "Walk") "part" (He.fAd K ("Walk", some "part")) := He.meth_ok (T.says.fact 79 (f := .meth "Walk" "part") rfl)
theorem Tp.m_Walk_join : Meth K (He.ga K "Walk") "join" (He.fAd K ("Walk", some "join")) := He.meth_ok (T.says.fact 80 (f := .meth "Walk" "join") rfl)
theorem Tp.m_Walk_lay : Meth K (He.ga K "Walk") "lay" (He.fAd K ("Walk", some "lay")) := He.meth_ok (T.says.fact 81 (f := .meth "Walk" "lay") rfl)
theorem Tp.m_Walk_put : Meth K (He.ga K "Walk") "put" (He.fAd K ("Walk", some "put")) := He.meth_ok (T.says.fact 82 (f := .meth "Walk" "put") rfl)
theorem Tp.m_Walk_fall : Meth K (He.ga K "Walk") "fall" (He.fAd K ("Walk", some "fall")) := He.meth_ok (T.says.fact 83 (f := .meth "Walk" "fall") rfl)
theorem Tp.m_Walk_go_to : Meth K (He.ga K "Walk") "go_to" (He.fAd K ("Walk", some "go_to")) := He.meth_ok (T.says.fact 84 (f := .meth "Walk" "go_to") rfl)
theorem Tp.m_Walk_places : Meth K (He.ga K "Walk") "places" (He.fAd K ("Walk", some "places")) := He.meth_ok (T.says.fact 85 (f := .meth "Walk" "places") rfl)
theorem Tp.m_Walk_dues_told : Meth K (He.ga K "Walk") "dues_told" (He.fAd K ("Walk", some "dues_told")) := He.meth_ok (T.says.fact 86 (f := .meth "Walk" "dues_told") rfl)
theorem Tp.f_page_day : ∃ fd, FunD K "page_day" "page_day" (defArgs s_page_day) (defBody s_page_day) (defScope s_page_day) [] [] (He.fAd K ("page_day", none)) fd := T.says.def_ 0 (d := d_page_day) rfl
theorem Tp.f_page_kind : ∃ fd, FunD K "page_kind" "page_kind" (defArgs s_page_kind) (defBody s_page_kind) (defScope s_page_kind) [] [] (He.fAd K ("page_kind", none)) fd := T.says.def_ 1 (d := d_page_kind) rfl
theorem Tp.f_names_of : ∃ fd, FunD K "names_of" "names_of" (defArgs s_names_of) (defBody s_names_of) (defScope s_names_of) [] [] (He.fAd K ("names_of", none)) fd := T.says.def_ 2 (d := d_names_of) rfl
theorem Tp.f_up_to : ∃ fd, FunD K "up_to" "up_to" (defArgs s_up_to) (defBody s_up_to) (defScope s_up_to) [] [] (He.fAd K ("up_to", none)) fd := T.says.def_ 3 (d := d_up_to) rfl
theorem Tp.f_Houses_init : ∃ fd, FunD K "__init__" "Houses.__init__" (defArgs s_Houses_init) (defBody s_Houses_init) (defScope s_Houses_init) [] [] (He.fAd K ("Houses", some "__init__")) fd := T.says.def_ 4 (d := d_Houses_init) rfl
theorem Tp.f_Houses_can : ∃ fd, FunD K "can" "Houses.can" (defArgs s_Houses_can) (defBody s_Houses_can) (defScope s_Houses_can) [] [] (He.fAd K ("Houses", some "can")) fd := T.says.def_ 5 (d := d_Houses_can) rfl
theorem Tp.f_Houses_come : ∃ fd, FunD K "come" "Houses.come" (defArgs s_Houses_come) (defBody s_Houses_come) (defScope s_Houses_come) [] [] (He.fAd K ("Houses", some "come")) fd := T.says.def_ 6 (d := d_Houses_come) rfl
theorem Tp.f_Houses_do : ∃ fd, FunD K "do" "Houses.do" (defArgs s_Houses_do) (defBody s_Houses_do) (defScope s_Houses_do) [] [] (He.fAd K ("Houses", some "do")) fd := T.says.def_ 7 (d := d_Houses_do) rfl
theorem Tp.f_Houses_meet : ∃ fd, FunD K "meet" "Houses.meet" (defArgs s_Houses_meet) (defBody s_Houses_meet) (defScope s_Houses_meet) [] [] (He.fAd K ("Houses", some "meet")) fd := T.says.def_ 8 (d := d_Houses_meet) rfl
theorem Tp.f_Houses_ask_standing : ∃ fd, FunD K "ask_standing" "Houses.ask_standing" (defArgs s_Houses_ask_standing) (defBody s_Houses_ask_standing) (defScope s_Houses_ask_standing) [] [] (He.fAd K ("Houses", some "ask_standing")) fd := T.says.def_ 9 (d := d_Houses_ask_standing) rfl
theorem Tp.f_houses_behind : ∃ fd, FunD K "houses_behind" "houses_behind" (defArgs s_houses_behind) (defBody s_houses_behind) (defScope s_houses_behind) [] [] (He.fAd K ("houses_behind", none)) fd := T.says.def_ 10 (d := d_houses_behind) rfl
theorem Tp.f_home_of : ∃ fd, FunD K "home_of" "home_of" (defArgs s_home_of) (defBody s_home_of) (defScope s_home_of) [] [] (He.fAd K ("home_of", none)) fd := T.says.def_ 11 (d := d_home_of) rfl
theorem Tp.f_idle : ∃ fd, FunD K "idle" "idle" (defArgs s_idle) (defBody s_idle) (defScope s_idle) [] [] (He.fAd K ("idle", none)) fd := T.says.def_ 12 (d := d_idle) rfl
theorem Tp.f_stays : ∃ fd, FunD K "stays" "stays" (defArgs s_stays) (defBody s_stays) (defScope s_stays) [] [] (He.fAd K ("stays", none)) fd := T.says.def_ 13 (d := d_stays) rfl
theorem Tp.f_term_of : ∃ fd, FunD K "term_of" "term_of" (defArgs s_term_of) (defBody s_term_of) (defScope s_term_of) [] [] (He.fAd K ("term_of", none)) fd := T.says.def_ 14 (d := d_term_of) rfl
theorem Tp.f_Walk_init : ∃ fd, FunD K "__init__" "Walk.__init__" (defArgs s_Walk_init) (defBody s_Walk_init) (defScope s_Walk_init) [] [] (He.fAd K ("Walk", some "__init__")) fd := T.says.def_ 15 (d := d_Walk_init) rfl
theorem Tp.f_Walk_mourns : ∃ fd, FunD K "mourns" "Walk.mourns" (defArgs s_Walk_mourns) (defBody s_Walk_mourns) (defScope s_Walk_mourns) [] [] (He.fAd K ("Walk", some "mourns")) fd := T.says.def_ 16 (d := d_Walk_mourns) rfl
theorem Tp.f_Walk_is_met : ∃ fd, FunD K "is_met" "Walk.is_met" (defArgs s_Walk_is_met) (defBody s_Walk_is_met) (defScope s_Walk_is_met) [] [] (He.fAd K ("Walk", some "is_met")) fd := T.says.def_ 17 (d := d_Walk_is_met) rfl
theorem Tp.f_Walk_go : ∃ fd, FunD K "go" "Walk.go" (defArgs s_Walk_go) (defBody s_Walk_go) (defScope s_Walk_go) [] [] (He.fAd K ("Walk", some "go")) fd := T.says.def_ 18 (d := d_Walk_go) rfl
theorem Tp.f_Walk_part : ∃ fd, FunD K "part" "Walk.part" (defArgs s_Walk_part) (defBody s_Walk_part) (defScope s_Walk_part) [] [] (He.fAd K ("Walk", some "part")) fd := T.says.def_ 19 (d := d_Walk_part) rfl
theorem Tp.f_Walk_join : ∃ fd, FunD K "join" "Walk.join" (defArgs s_Walk_join) (defBody s_Walk_join) (defScope s_Walk_join) [] [] (He.fAd K ("Walk", some "join")) fd := T.says.def_ 20 (d := d_Walk_join) rfl
theorem Tp.f_Walk_lay : ∃ fd, FunD K "lay" "Walk.lay" (defArgs s_Walk_lay) (defBody s_Walk_lay) (defScope s_Walk_lay) [] [] (He.fAd K ("Walk", some "lay")) fd := T.says.def_ 21 (d := d_Walk_lay) rfl
theorem Tp.f_Walk_put : ∃ fd, FunD K "put" "Walk.put" (defArgs s_Walk_put) (defBody s_Walk_put) (defScope s_Walk_put) [] [] (He.fAd K ("Walk", some "put")) fd := T.says.def_ 22 (d := d_Walk_put) rfl
theorem Tp.f_Walk_fall : ∃ fd, FunD K "fall" "Walk.fall" (defArgs s_Walk_fall) (defBody s_Walk_fall) (defScope s_Walk_fall) [] [] (He.fAd K ("Walk", some "fall")) fd := T.says.def_ 23 (d := d_Walk_fall) rfl
theorem Tp.f_Walk_go_to : ∃ fd, FunD K "go_to" "Walk.go_to" (defArgs s_Walk_go_to) (defBody s_Walk_go_to) (defScope s_Walk_go_to) [] [] (He.fAd K ("Walk", some "go_to")) fd := T.says.def_ 24 (d := d_Walk_go_to) rfl
theorem Tp.f_Walk_places : ∃ fd, FunD K "places" "Walk.places" (defArgs s_Walk_places) (defBody s_Walk_places) (defScope s_Walk_places) [] [] (He.fAd K ("Walk", some "places")) fd := T.says.def_ 25 (d := d_Walk_places) rfl
theorem Tp.f_Walk_dues_told : ∃ fd, FunD K "dues_told" "Walk.dues_told" (defArgs s_Walk_dues_told) (defBody s_Walk_dues_told) (defScope s_Walk_dues_told) [] [] (He.fAd K ("Walk", some "dues_told")) fd := T.says.def_ 26 (d := d_Walk_dues_told) rfl
theorem Tp.f_walked : ∃ fd, FunD K "walked" "walked" (defArgs s_walked) (defBody s_walked) (defScope s_walked) [] [] (He.fAd K ("walked", none)) fd := T.says.def_ 27 (d := d_walked) rfl
theorem Tp.f_dues : ∃ fd, FunD K "dues" "dues" (defArgs s_dues) (defBody s_dues) (defScope s_dues) [] [] (He.fAd K ("dues", none)) fd := T.says.def_ 28 (d := d_dues) rfl
theorem Tp.f_marks : ∃ fd, FunD K "marks" "marks" (defArgs s_marks) (defBody s_marks) (defScope s_marks) [] [] (He.fAd K ("marks", none)) fd := T.says.def_ 29 (d := d_marks) rfl
theorem Tp.f_owes : ∃ fd, FunD K "owes" "owes" (defArgs s_owes) (defBody s_owes) (defScope s_owes) [] [] (He.fAd K ("owes", none)) fd := T.says.def_ 30 (d := d_owes) rfl
theorem Tp.f_matters : ∃ fd, FunD K "matters" "matters" (defArgs s_matters) (defBody s_matters) (defScope s_matters) [] [] (He.fAd K ("matters", none)) fd := T.says.def_ 31 (d := d_matters) rfl
theorem Tp.f_sums : ∃ fd, FunD K "sums" "sums" (defArgs s_sums) (defBody s_sums) (defScope s_sums) [] [] (He.fAd K ("sums", none)) fd := T.says.def_ 32 (d := d_sums) rfl
theorem Tp.f_answered : ∃ fd, FunD K "answered" "answered" (defArgs s_answered) (defBody s_answered) (defScope s_answered) [] [] (He.fAd K ("answered", none)) fd := T.says.def_ 33 (d := d_answered) rfl
theorem Tp.f_l_feed : ∃ fd, FunD K "_law_feed" "_law_feed" (defArgs s_l_feed) (defBody s_l_feed) (defScope s_l_feed) [] [] (He.fAd K ("_law_feed", none)) fd := T.says.def_ 34 (d := d_l_feed) rfl
theorem Tp.f_l_draw : ∃ fd, FunD K "_law_draw" "_law_draw" (defArgs s_l_draw) (defBody s_l_draw) (defScope s_l_draw) [] [] (He.fAd K ("_law_draw", none)) fd := T.says.def_ 35 (d := d_l_draw) rfl
theorem Tp.f_l_names : ∃ fd, FunD K "_law_names" "_law_names" (defArgs s_l_names) (defBody s_l_names) (defScope s_l_names) [] [] (He.fAd K ("_law_names", none)) fd := T.says.def_ 36 (d := d_l_names) rfl
theorem Tp.f_l_home : ∃ fd, FunD K "_law_home" "_law_home" (defArgs s_l_home) (defBody s_l_home) (defScope s_l_home) [] [] (He.fAd K ("_law_home", none)) fd := T.says.def_ 37 (d := d_l_home) rfl
theorem Tp.f_l_page : ∃ fd, FunD K "_law_page" "_law_page" (defArgs s_l_page) (defBody s_l_page) (defScope s_l_page) [] [] (He.fAd K ("_law_page", none)) fd := T.says.def_ 38 (d := d_l_page) rfl
theorem Tp.f_l_rank : ∃ fd, FunD K "_law_rank" "_law_rank" (defArgs s_l_rank) (defBody s_l_rank) (defScope s_l_rank) [] [] (He.fAd K ("_law_rank", none)) fd := T.says.def_ 39 (d := d_l_rank) rfl
theorem Tp.f_l_standing_so : ∃ fd, FunD K "_law_standing_so" "_law_standing_so" (defArgs s_l_standing_so) (defBody s_l_standing_so) (defScope s_l_standing_so) [] [] (He.fAd K ("_law_standing_so", none)) fd := T.says.def_ 40 (d := d_l_standing_so) rfl
theorem Tp.f_l_book : ∃ fd, FunD K "_law_book" "_law_book" (defArgs s_l_book) (defBody s_l_book) (defScope s_l_book) [] [] (He.fAd K ("_law_book", none)) fd := T.says.def_ 41 (d := d_l_book) rfl
theorem Tp.f_l_case : ∃ fd, FunD K "_law_case" "_law_case" (defArgs s_l_case) (defBody s_l_case) (defScope s_l_case) [] [] (He.fAd K ("_law_case", none)) fd := T.says.def_ 42 (d := d_l_case) rfl
theorem Tp.f_l_counted : ∃ fd, FunD K "_law_counted" "_law_counted" (defArgs s_l_counted) (defBody s_l_counted) (defScope s_l_counted) [] [] (He.fAd K ("_law_counted", none)) fd := T.says.def_ 43 (d := d_l_counted) rfl
theorem Tp.f_l_right : ∃ fd, FunD K "_law_right" "_law_right" (defArgs s_l_right) (defBody s_l_right) (defScope s_l_right) [] [] (He.fAd K ("_law_right", none)) fd := T.says.def_ 44 (d := d_l_right) rfl
theorem Tp.f_law : ∃ fd, FunD K "law" "law" (defArgs s_law) (defBody s_law) (defScope s_law) [] [] (He.fAd K ("law", none)) fd := T.says.def_ 45 (d := d_law) rfl
theorem Tp.alone (H : Hp) : SqT K H (He.ga K "ALONE") [.str "house", .str "home", .str "mourn"] := He.tupB_ok (vs := [.str "house", .str "home", .str "mourn"]) (Bool.and_eq_true_iff.mp T.more).1 H
theorem Tp.goings (H : Hp) : SqT K H (He.ga K "GOINGS") [.str "card", .str "visit"] := He.tupB_ok (vs := [.str "card", .str "visit"]) (Bool.and_eq_true_iff.mp T.more).2 H
end
/-- a def keeps its promise -/
structure Ok (P : Program) (w : World) (K : PySem.W.Frag) (mg : Str → Option Value) (base : Heap) (k : Nat) (at_ : Str × Option Str) (ps : List Str) (sp : Sp) : Prop where
  ex : ∃ fd, Binds K fd ps [] ∧ FnOk P w K mg base CX0 k (He.fAd K at_) fd ps sp
  kp : PySem.W.keepIn K (.ref (He.fAd K at_)) = true
end CB
/-! CBHead -/
set_option Elab.async false
set_option autoImplicit false
set_option linter.all false
set_option maxRecDepth 100000
set_option maxHeartbeats 0
/-! The head: what the top leaves, by one run of the kernel. -/
namespace CB
open PySem PySem.Spec PyProof.Rows L2
abbrev theRow : PySem.W.OpenRow := PySem.W.OpenLaw.row PySem.Challenge.rw_cardsback_k27_whole_answer_or_due
def depthOf : Nat := 5
def hook : PySem.W.Hook where
  α := He.AlD × Bool
  obs := fun s => (He.obsDG depthOf facts fns s.heap.get?, more (He.frG s.heap.get? (He.asD s.heap.get? depthOf)))
  val := fun _ => (He.valD fns, true)
  says := fun _ h => ∃ K : PySem.W.Frag, K.In h ∧ He.SaysD facts fns K ∧ more K = true
  of := fun _ _ e => ⟨_, He.frG_in, congrArg Prod.fst e, congrArg Prod.snd e⟩
  keeps := fun _ _ _ ⟨K, hK, c⟩ k => ⟨K, PySem.W.Frag.In.keeps hK k, c⟩
def looks (s : PySem.W.SharedT) : He.AlD × Bool := (He.obsDG depthOf facts fns (HandSHeadRun.getT s), more (He.frG (HandSHeadRun.getT s) (He.asD (HandSHeadRun.getT s) depthOf)))
theorem looks_eq (s : PySem.W.SharedT) : looks s = hook.obs s.abs := by
  have e : HandSHeadRun.getT s = s.abs.heap.get? := funext (HandSHeadRun.getT_eq s)
  unfold looks
  rw [e]
  rfl
def loose1 : List Str := ["_wall", "CardsError", "NoHouse", "ALONE", "page_day", "page_kind", "names_of", "up_to", "Houses", "houses_behind", "home_of", "idle"]
def loose2 : List Str := ["GOINGS", "WEEK", "stays", "term_of", "Walk", "walked", "dues", "marks", "owes", "matters", "sums", "answered"]
def loose3 : List Str := ["_law_feed", "_law_draw", "_law_names", "_law_home", "_law_page", "_law_rank", "_law_standing_so", "_law_book", "_law_case", "_law_counted", "_law_right"]
def loose : List Str := loose1 ++ (loose2 ++ loose3)
theorem run (w : World) : HandSHeadRun.RunEq theRow (PySem.W.view theRow.prog [43]) hook looks 3000 loose w := by
  intro os
  kernel_rfl
end CB
/-! CBEv -/
set_option Elab.async false
set_option autoImplicit false
set_option linter.all false
set_option maxRecDepth 100000
set_option maxHeartbeats 2000000
/-! What an expression evaluates to, told as data (wherever they lie). -/
namespace CB
open PySem PySem.Spec PyProof.Rows L2
open Evl (Ev EvT EvA EvO)

/-- an expression gives this datum, what was there stands -/
def EvK (te : TE) (σ : L2.St) (H : Hp) (k : NestedKey) : Prop := ∀ H1, Same H H1 → ∀ Q : VK, (∀ v H2, Same H1 H2 → KAt H2 v k → Q v H2) → te σ H1 Q
def EvKs (ta : TA) (σ : L2.St) (H : Hp) (ks : List NestedKey) : Prop := ∀ H1, Same H H1 → ∀ Q : List V → Hp → Prop, (∀ vs H2, Same H1 H2 → KAll H2 vs ks → Q vs H2) → ta σ H1 Q
/-- .. a new list of these -/
def EvLK (te : TE) (σ : L2.St) (H : Hp) (ks : List NestedKey) : Prop := ∀ H1, Same H H1 → ∀ Q : VK, (∀ p xs H2, H1 p = none → Same H1 H2 → H2 p = some (.lst xs) → KAll H2 xs ks → Q (.ref p) H2) → te σ H1 Q

theorem _root_.L2.Same.tr {a b c : Hp} (x : Same a b) (y : Same b c) : Same a c := fun p o e => y p o (x p o e)
theorem _root_.L2.Same.rf (a : Hp) : Same a a := fun _ _ e => e
theorem _root_.L2.Same.up {a : Hp} {p : Addr} {o : HO} (h : a p = none) : Same a (upd a p o) := fun b u e => by rw [upd_ne (ne_of_none e h)]; exact e
theorem _root_.L2.Same.up2 {a b : Hp} {p : Addr} {o : HO} (s : Same a b) (h : a p = none) : Same a (upd b p o) := fun c u e => by rw [upd_ne (ne_of_none e h)]; exact s c u e
theorem _root_.L2.Same.no {a b : Hp} (s : Same a b) {p : Addr} (h : b p = none) : a p = none := by
  cases e : a p with
  | none => rfl
  | some o => rw [s p o e] at h; cases h
theorem _root_.Evl.Ex.tr {a b c : Hp} (x : Evl.Ex a b) (y : Same b c) : Same a c := fun p o e => y p o (x p o e)
theorem sqT_same {K : PySem.W.Frag} {a b : Hp} {p : Addr} {xs : List V} (s : Same a b) (h : SqT K a p xs) : SqT K b p xs := Evl.ex_t s h
theorem sqL_same {K : PySem.W.Frag} {a b : Hp} {p : Addr} {xs : List V} (s : Same a b) (h : SqL K a p xs) : SqL K b p xs := Evl.ex_l s h

/-- a part of a row -/
def cutK (ks : List NestedKey) (lo hi : Option Int) : List NestedKey := (ks.drop (HT.sIx ks.length 0 lo)).take (HT.sIx ks.length ks.length hi - HT.sIx ks.length 0 lo)
theorem cutK_full {ks : List NestedKey} {lo hi : Option Int} (h : HT.sIx ks.length 0 lo = 0 ∧ HT.sIx ks.length ks.length hi = ks.length) : cutK ks lo hi = ks := by
  unfold cutK
  rw [h.1, h.2, List.drop_zero, Nat.sub_zero, List.take_length]
theorem kall_cut {H : Hp} {xs : List V} {ks : List NestedKey} (h : KAll H xs ks) (lo hi : Option Int) : KAll H (cutV xs lo hi) (cutK ks lo hi) := by
  unfold cutV cutK
  rw [h.length]
  exact KAll.take _ (KAll.drop _ h)
theorem kall_atI {H : Hp} {xs : List V} {ks : List NestedKey} (h : KAll H xs ks) {i : Int} {k : NestedKey} (e : atI ks i = some k) : ∃ v, atI xs i = some v ∧ KAt H v k := by
  unfold atI at e ⊢
  rw [h.length]
  cases q : ixN ks.length i with
  | none => rw [q] at e; cases e
  | some j =>
    rw [q] at e
    exact h.get e

section
variable {K : PySem.W.Frag} {σ : L2.St} {H H' : Hp} {te ta tb : TE} {tr t : TA} {k : NestedKey} {ks ls : List NestedKey} {v : V}
theorem EvK.mono (e : Same H H') (h : EvK te σ H k) : EvK te σ H' k := fun H1 a Q q => h H1 (e.tr a) Q q
theorem EvKs.mono (e : Same H H') (h : EvKs t σ H ks) : EvKs t σ H' ks := fun H1 a Q q => h H1 (e.tr a) Q q
theorem EvLK.mono (e : Same H H') (h : EvLK te σ H ks) : EvLK te σ H' ks := fun H1 a Q q => h H1 (e.tr a) Q q
theorem ek_of (h : Ev te σ H v) (hk : KAt H v k) : EvK te σ H k := fun H1 e Q q => h H1 e Q fun H2 e2 => q v H2 e2 (hk.mono (e.tr e2))
theorem EvK.text {s : Str} (h : EvK te σ H (.text s)) : Ev te σ H (.str s) := fun H1 e Q q => h H1 e Q fun v H2 e2 hv => by cases hv; exact q H2 e2
theorem EvK.num {i : Int} (h : EvK te σ H (.num i)) : Ev te σ H (.int i) := fun H1 e Q q => h H1 e Q fun v H2 e2 hv => by cases hv; exact q H2 e2
theorem ek_num {i : Int} (h : Ev te σ H (.int i)) : EvK te σ H (.num i) := ek_of h (.num i)
theorem ek_text {s : Str} (h : Ev te σ H (.str s)) : EvK te σ H (.text s) := ek_of h (.text s)
theorem ek_var {i : Nat} (h : σ[i]? = some (some v)) (hk : KAt H v k) : EvK (tVar i) σ H k := ek_of (Evl.ev_var h) hk
theorem ek_str {s : Str} : EvK (tC (.str s)) σ H (.text s) := ek_of Evl.ev_c (.text s)
theorem ek_int {i : Int} : EvK (tC (.int i)) σ H (.num i) := ek_of Evl.ev_c (.num i)
theorem ek_non : EvK (tC .non) σ H .none := ek_of Evl.ev_c .none
theorem ek_ix {i : Int} (ha : EvK ta σ H (.tup ks)) (hi : Ev tb σ H (.int i)) (h : atI ks i = some k) : EvK (tOp (rIxT K) ta tb) σ H k := fun H1 e Q q =>
  ha H1 e _ fun v H2 e2 hv => hi H2 (e.tr e2) _ fun H3 e3 => by
    obtain ⟨a, xs, rfl, h1, h2⟩ := (hv.mono e3).tupRef
    obtain ⟨y, h3, h4⟩ := kall_atI h2 h
    exact ⟨a, xs, i, y, rfl, rfl, .of h1, h3, q y H3 (e2.tr e3) h4⟩
theorem ek_sl {tl th : TO} {lo hi : Option Int} (ha : EvK te σ H (.tup ks)) (h1 : EvO tl σ H lo) (h2 : EvO th σ H hi) : EvK (tSl (rSlA K) te tl th) σ H (.tup (cutK ks lo hi)) := fun H1 e Q q =>
  ha H1 e _ fun v H2 e2 hv => h1 H2 (e.tr e2) _ fun H3 e3 => h2 H3 ((e.tr e2).tr e3) _ fun H4 e4 => by
    have hv' := hv.mono (Same.tr e3 e4)
    obtain ⟨a, xs, rfl, g1, g2⟩ := hv'.tupRef
    have le := g2.length
    refine ⟨a, xs, rfl, .of g1, fun full => ?_, fun _ p hp => ?_⟩
    · rw [le] at full
      rw [cutK_full full] at q
      exact q _ H4 ((e2.tr e3).tr e4) hv'
    · exact q _ _ (((e2.tr e3).tr e4).tr (.up hp)) (.tup upd_same ((kall_cut g2 lo hi).mono (.up hp)))
theorem eks_nil : EvKs tNil σ H [] := fun H1 _ Q q => q [] H1 (.rf _) .nil
theorem eks_cons (h : EvK te σ H k) (hr : EvKs tr σ H ks) : EvKs (tCons te tr) σ H (k :: ks) := fun H1 e Q q =>
  h H1 e _ fun v H2 e2 hv => hr H2 (e.tr e2) _ fun vs H3 e3 hs => q (v :: vs) H3 (e2.tr e3) (.cons (hv.mono e3) hs)
theorem ek_tup (h : EvKs t σ H ks) (hl : Nat.ble ks.length 100000 = true := by rfl) : EvK (tTup t) σ H (.tup ks) := fun H1 e Q q =>
  h H1 e _ fun vs H2 e2 hs => ⟨by rw [hs.length]; exact Evl.sz_of (Nat.le_of_ble_eq_true hl), fun p hp => q _ _ (e2.tr (.up hp)) (.tup upd_same (hs.mono (.up hp)))⟩
theorem ek_cat (ha : EvK ta σ H (.tup ks)) (hb : EvK tb σ H (.tup ls)) (hn : ks ≠ []) (hl : ks.length + ls.length ≤ 100000) : EvK (tOp (rCatT K) ta tb) σ H (.tup (ks ++ ls)) := fun H1 e Q q =>
  ha H1 e _ fun v H2 e2 hv => hb H2 (e.tr e2) _ fun u H3 e3 hu => by
    have hv' := hv.mono e3
    obtain ⟨a, xs, rfl, g1, g2⟩ := hv'.tupRef
    obtain ⟨b, ys, rfl, f1, f2⟩ := hu.tupRef
    refine ⟨a, b, xs, ys, rfl, rfl, .of g1, .of f1, fun z => ?_, ?_, fun z => ?_, fun _ p hp => ?_⟩
    · subst z; cases g2; exact hn rfl
    · rw [g2.length, f2.length]; exact Evl.sz_of hl
    · subst z
      cases f2
      rw [List.append_nil] at q
      exact q _ H3 (e2.tr e3) hv'
    · exact q _ _ ((e2.tr e3).tr (.up hp)) (.tup upd_same ((g2.append f2).mono (.up hp)))
theorem el_lstK (h : EvKs t σ H ks) (hl : Nat.ble ks.length 100000 = true := by rfl) : EvLK (tLst t) σ H ks := fun H1 e Q q =>
  h H1 e _ fun vs H2 e2 hs => ⟨by rw [hs.length]; exact Evl.sz_of (Nat.le_of_ble_eq_true hl), fun p hp => q p vs _ (e2.no hp) (e2.tr (.up hp)) upd_same (hs.mono (.up hp))⟩

/-! tests -/
theorem eb_eqN (ha : EvK ta σ H (.tup ks)) (hb : EvK tb σ H (.tup ls)) (hd : NestedKey.depthAll ks ≤ 30) : Ev (tOp rEqN ta tb) σ H (.bl (decide (ks = ls))) := fun H1 e Q q =>
  ha H1 e _ fun v H2 e2 hv => hb H2 (e.tr e2) _ fun u H3 e3 hu => ⟨ks, ls, hv.mono e3, hu, hd, q H3 (e2.tr e3)⟩
theorem eb_neN (ha : EvK ta σ H (.tup ks)) (hb : EvK tb σ H (.tup ls)) (hd : NestedKey.depthAll ks ≤ 30) : Ev (tOp rNeN ta tb) σ H (.bl (!decide (ks = ls))) := fun H1 e Q q =>
  ha H1 e _ fun v H2 e2 hv => hb H2 (e.tr e2) _ fun u H3 e3 hu => ⟨ks, ls, hv.mono e3, hu, hd, q H3 (e2.tr e3)⟩
theorem str_inj {a b : Str} : decide (V.str a = V.str b) = decide (a = b) := decide_eq_decide.mpr ⟨fun z => by injection z, fun z => by rw [z]⟩
theorem int_inj {a b : Int} : decide (V.int a = V.int b) = decide (a = b) := decide_eq_decide.mpr ⟨fun z => by injection z, fun z => by rw [z]⟩
theorem eb_eqT {a b : Str} (ha : Ev ta σ H (.str a)) (hb : Ev tb σ H (.str b)) : Ev (tOp rEq ta tb) σ H (.bl (decide (a = b))) := Evl.ev_is (Evl.ev_op ha hb (Evl.rv_eq rfl)) (by rw [str_inj])
theorem eb_neT {a b : Str} (ha : Ev ta σ H (.str a)) (hb : Ev tb σ H (.str b)) : Ev (tOp rNe ta tb) σ H (.bl (!decide (a = b))) := Evl.ev_is (Evl.ev_op ha hb (Evl.rv_ne rfl)) (by rw [str_inj])
theorem eb_eqI {a b : Int} (ha : Ev ta σ H (.int a)) (hb : Ev tb σ H (.int b)) : Ev (tOp rEq ta tb) σ H (.bl (decide (a = b))) := Evl.ev_is (Evl.ev_op ha hb (Evl.rv_eq rfl)) (by rw [int_inj])
theorem eb_neI {a b : Int} (ha : Ev ta σ H (.int a)) (hb : Ev tb σ H (.int b)) : Ev (tOp rNe ta tb) σ H (.bl (!decide (a = b))) := Evl.ev_is (Evl.ev_op ha hb (Evl.rv_ne rfl)) (by rw [int_inj])
theorem eb_in {p : Addr} {xs : List V} {neg : Bool} (ha : EvK ta σ H k) (hb : Ev tb σ H (.ref p)) (hs : SqL K H p xs ∨ SqT K H p xs) (hk : KAll H xs ks) (hd : NestedKey.depthAll ks ≤ 30) : Ev (tOp (rInN K neg) ta tb) σ H (.bl (if neg then !decide (k ∈ ks) else decide (k ∈ ks))) := fun H1 e Q q =>
  ha H1 e _ fun v H2 e2 hv => hb H2 (e.tr e2) _ fun H3 e3 => ⟨p, xs, k, ks, rfl, hs.imp (sqL_same ((e.tr e2).tr e3)) (sqT_same ((e.tr e2).tr e3)), hk.mono ((e.tr e2).tr e3), hv.mono e3, hd, q H3 (e2.tr e3)⟩
theorem eb_inK {neg : Bool} (ha : EvK ta σ H k) (hb : EvK tb σ H (.tup ks)) (hd : NestedKey.depthAll ks ≤ 30) : Ev (tOp (rInN K neg) ta tb) σ H (.bl (if neg then !decide (k ∈ ks) else decide (k ∈ ks))) := fun H1 e Q q =>
  ha H1 e _ fun v H2 e2 hv => hb H2 (e.tr e2) _ fun u H3 e3 hu => by
    obtain ⟨a, xs, rfl, h1, h2⟩ := hu.tupRef
    exact ⟨a, xs, k, ks, rfl, .inr (.of h1), h2, hv.mono e3, hd, q H3 (e2.tr e3)⟩

/-! fields, dicts -/
theorem ev_fld {C dx x : Addr} {fs : List (Str × V)} {f : Str} (h : Ev ta σ H (.ref x)) (hi : H x = some (.ins C dx fs)) (hc : Cls K C) (hn : NoAttr K C f) (hl : fs.lookup f = some v) : Ev (tFld K ta f) σ H v := fun H1 e Q q =>
  h H1 e _ fun H2 e2 => ⟨x, C, dx, fs, v, rfl, e2 _ _ (e _ _ hi), hc, hn, hl, q H2 e2⟩
section
variable {P : Program} {w : World} {d : Addr} {kvs : List (NestedKey × V)}
theorem ek_nget (h : Ev ta σ H (.ref d)) (hk : EvK tb σ H (.tup ks)) (dn : DN P w H d kvs) (hd : (NestedKey.tup ks).depth ≤ 8) (hv : valV kvs (.tup ks) = some v) (hq : KAt H v k) : EvK (tNGet P w ta tb) σ H k := fun H1 e Q q =>
  h H1 e _ fun H2 e2 => hk H2 (e.tr e2) _ fun u H3 e3 hu => ⟨d, kvs, ks, v, rfl, dn.same ((e.tr e2).tr e3), hu, hd, hv, q v H3 (e2.tr e3) (hq.mono ((e.tr e2).tr e3))⟩
end
theorem nget_aux : True := trivial
end
section
variable {K : PySem.W.Frag} {σ : L2.St} {H H' : Hp} {te ta tb : TE} {tr t : TA} {k : NestedKey} {ks ls : List NestedKey} {v : V} {P : Program} {w : World} {d : Addr}
theorem eb_nin {kvs : List (NestedKey × V)} (hk : EvK tb σ H (.tup ks)) (h : Ev ta σ H (.ref d)) (dn : DN P w H d kvs) (hd : (NestedKey.tup ks).depth ≤ 8) : Ev (tNIn P w tb ta) σ H (.bl (valV kvs (.tup ks)).isSome) := fun H1 e Q q =>
  hk H1 e _ fun u H2 e2 hu => h H2 (e.tr e2) _ fun H3 e3 => ⟨d, kvs, ks, rfl, dn.same ((e.tr e2).tr e3), hu.mono e3, hd, q H3 (e2.tr e3)⟩
theorem ev_dget {kvs : List (L2.Key × V)} {s : Str} (h : Ev ta σ H (.ref d)) (hk : Ev tb σ H (.str s)) (hd : H d = some (.dK kvs)) (hv : valV kvs (Sum.inr s) = some v) : Ev (tDGet ta tb) σ H v := fun H1 e Q q =>
  h H1 e _ fun H2 e2 => hk H2 (e.tr e2) _ fun H3 e3 => ⟨d, v, rfl, hv ▸ DGet.k (k := Sum.inr s) (((e.tr e2).tr e3) _ _ hd), q H3 (e2.tr e3)⟩
theorem eb_din {kvs : List (L2.Key × V)} {s : Str} (hk : Ev tb σ H (.str s)) (h : Ev ta σ H (.ref d)) (hd : H d = some (.dK kvs)) : Ev (tDIn tb ta) σ H (.bl (valV kvs (Sum.inr s)).isSome) := fun H1 e Q q =>
  hk H1 e _ fun H2 e2 => h H2 (e.tr e2) _ fun H3 e3 => ⟨d, _, rfl, DGet.k (k := Sum.inr s) (((e.tr e2).tr e3) _ _ hd), q H3 (e2.tr e3)⟩
theorem eb_dnin {kvs : List (L2.Key × V)} {s : Str} (hk : Ev tb σ H (.str s)) (h : Ev ta σ H (.ref d)) (hd : H d = some (.dK kvs)) : Ev (tDNotIn tb ta) σ H (.bl (!(valV kvs (Sum.inr s)).isSome)) := fun H1 e Q q =>
  hk H1 e _ fun H2 e2 => h H2 (e.tr e2) _ fun H3 e3 => ⟨d, _, rfl, DGet.k (k := Sum.inr s) (((e.tr e2).tr e3) _ _ hd), q H3 (e2.tr e3)⟩
/-! calls -/
/-- a def upon data that gives a datum, a truth value -/
def spF (dom : List NestedKey → NestedKey → Prop) : Sp := fun vs H Q _ => ∃ ks k, dom ks k ∧ KAll H vs ks ∧ ∀ v H', Same H H' → KAt H' v k → Q v H'
def spB (dom : List NestedKey → Bool → Prop) : Sp := fun vs H Q _ => ∃ ks b, dom ks b ∧ KAll H vs ks ∧ ∀ H', Same H H' → Q (.bl b) H'
/-- .. a new list of data -/
def spL (dom : List NestedKey → List NestedKey → Prop) : Sp := fun vs H Q _ => ∃ ks ls, dom ks ls ∧ KAll H vs ks ∧ ∀ p xs H', H p = none → Same H H' → H' p = some (.lst xs) → KAll H' xs ls → Q (.ref p) H'
theorem ek_call {dom : List NestedKey → NestedKey → Prop} {E : XK} (h : EvKs t σ H ks) (d : dom ks k) : EvK (tCall (spF dom) [] E t) σ H k := fun H1 e Q q =>
  h H1 e _ fun vs H2 e2 hs => by
    show spF dom (vs ++ []) H2 Q E
    rw [List.append_nil]
    exact ⟨ks, k, d, hs, fun v H' s hv => q v H' (e2.tr s) hv⟩
theorem eb_call {dom : List NestedKey → Bool → Prop} {E : XK} {b : Bool} (h : EvKs t σ H ks) (d : dom ks b) : Ev (tCall (spB dom) [] E t) σ H (.bl b) := fun H1 e Q q =>
  h H1 e _ fun vs H2 e2 hs => by
    show spB dom (vs ++ []) H2 Q E
    rw [List.append_nil]
    exact ⟨ks, b, d, hs, fun H' s => q H' (e2.tr s)⟩
theorem el_call {dom : List NestedKey → List NestedKey → Prop} {E : XK} (h : EvKs t σ H ks) (d : dom ks ls) : EvLK (tCall (spL dom) [] E t) σ H ls := fun H1 e Q q =>
  h H1 e _ fun vs H2 e2 hs => by
    show spL dom (vs ++ []) H2 Q E
    rw [List.append_nil]
    exact ⟨ks, ls, d, hs, fun p xs H' hp s h1 h2 => q p xs H' (e2.no hp) (e2.tr s) h1 h2⟩
/-! statements -/
variable {D : Ends}
theorem s_asgK {i : Nat} (h : EvK te σ H k) (q : ∀ v H1, Same H H1 → KAt H1 v k → D.nx (σ.set i (some v)) H1) : tAsg te (gName i) D σ H := h H (.rf _) _ fun v H1 e hv => q v H1 e hv
theorem s_retK (h : EvK te σ H k) (q : ∀ v H1, Same H H1 → KAt H1 v k → D.rt v H1) : tRet te D σ H := h H (.rf _) _ fun v H1 e hv => q v H1 e hv
theorem s_asgLK {i : Nat} (h : EvLK te σ H ks) (q : ∀ p xs H1, H p = none → Same H H1 → H1 p = some (.lst xs) → KAll H1 xs ks → D.nx (σ.set i (some (.ref p))) H1) : tAsg te (gName i) D σ H := h H (.rf _) _ fun p xs H1 hp e h1 h2 => q p xs H1 hp e h1 h2
theorem s_retLK (h : EvLK te σ H ks) (q : ∀ p xs H1, H p = none → Same H H1 → H1 p = some (.lst xs) → KAll H1 xs ks → D.rt (.ref p) H1) : tRet te D σ H := h H (.rf _) _ fun p xs H1 hp e h1 h2 => q p xs H1 hp e h1 h2
end

/-! defs -/
section
variable {P : Program} {w : World} {K : PySem.W.Frag} {mg : Str → Option Value} {base : Heap} {k : Nat} {at_ : Str × Option Str} {x qual : Str} {params : Arguments} {body : List Stmt} {scope : Scope} {N ps : List Str} {sp : Sp}
theorem ok_of (hF : ∃ fd, FunD K x qual params body scope [] [] (He.fAd K at_) fd) (S : FnScope N ps scope)
    (hb : ∀ (kV doc pm : Value) (an : Option Addr) (cdv ct : Value) (us : List Value), us.length = ps.length → bindArgs (PySem.W.fnOf x qual params body scope .none kV doc pm an cdv ct) ⟨us, []⟩ = pure (ps.zip us))
    (len : ∀ vs H Q E, sp vs H Q E → vs.length = ps.length)
    (run : ∀ (cdv : Value) (A : Around) (outer : List Env) (s : Shared) (H : Hp) (vs : List V) (Q : VK) (E : XK), Room k (A.deeper (envOfC qual scope s.heap.objs.size (He.fAd K at_) cdv)) → sp vs H Q E →
      ∃ t, PSs (cxOf CX0 P w K mg base N qual scope (He.fAd K at_) cdv A outer s H E).nox body t ∧ t { nx := fun _ H' => Q .non H', rt := Q } (start N vs) H) : Ok P w K mg base (k + 1) at_ ps sp := by
  obtain ⟨fd, F⟩ := hF
  exact ⟨⟨fd, F.bindsN hb, F.ok S len fun cdv A outer s H vs Q E hr h => let ⟨t, a, b⟩ := run cdv A outer s H vs Q E hr h; ⟨t, a.nox, b⟩⟩, F.kp⟩
theorem Ok.mono {j : Nat} (o : Ok P w K mg base j at_ ps sp) (h : j ≤ k) : Ok P w K mg base k at_ ps sp := by
  obtain ⟨⟨fd, b, F⟩, kp⟩ := o
  exact ⟨⟨fd, b, F.mono h⟩, kp⟩
variable {X : Cx} {e : Expr} {es : List Expr} {t : TA} {p pos : Pos}
theorem pe_fn (O : Ok X.prog X.w X.K X.mg X.base k (x, none) ps sp) (hr : Room k X.A) (hg : Gl X x) (hm : X.mg x = some (.ref (He.ga X.K x))) (ha : PA X (e :: es) t) (hdb : (x == ("__debug__" : Str)) = false := by decide)
    (he : starEach (e :: es) X.env = (false, eval e X.env) :: starEach es X.env := by rfl) (hpl : (backTo pos (starEach es X.env)).any (·.1) = false := by rfl) : PE X (.Call (.Name x p) (e :: es) [] pos) (tCall sp [] E0 t) := by
  obtain ⟨⟨fd, b, F⟩, kp⟩ := O
  exact pe_call F hr hg hm kp b .nil pass0 ha hdb he hpl
end
theorem len_F {dom : List NestedKey → NestedKey → Prop} {n : Nat} (h : ∀ ks k, dom ks k → ks.length = n) : ∀ (vs : List V) (H : Hp) (Q : VK) (E : XK), spF dom vs H Q E → vs.length = n := fun vs H Q E ⟨ks, k, d, hs, _⟩ => by rw [hs.length]; exact h ks k d
theorem len_B {dom : List NestedKey → Bool → Prop} {n : Nat} (h : ∀ ks k, dom ks k → ks.length = n) : ∀ (vs : List V) (H : Hp) (Q : VK) (E : XK), spB dom vs H Q E → vs.length = n := fun vs H Q E ⟨ks, k, d, hs, _⟩ => by rw [hs.length]; exact h ks k d
theorem len_L {dom : List NestedKey → List NestedKey → Prop} {n : Nat} (h : ∀ ks k, dom ks k → ks.length = n) : ∀ (vs : List V) (H : Hp) (Q : VK) (E : XK), spL dom vs H Q E → vs.length = n := fun vs H Q E ⟨ks, k, d, hs, _⟩ => by rw [hs.length]; exact h ks k d
end CB
/-! CBEv2 -/
set_option Elab.async false
set_option autoImplicit false
set_option linter.all false
set_option maxRecDepth 100000
set_option maxHeartbeats 2000000
/-! Sources of data, comprehensions over them. -/
namespace CB
open PySem PySem.Spec PyProof.Rows L2
open Evl (Ev EvT EvA EvO)

/-- what is walked gives these data and changes nothing -/
structure Gives (J : It) (H : Hp) (ks : List NestedKey) : Prop where
  go : ∀ i H', Same H H' → i < ks.length → J.go i H'
  stop : ∀ i H', Same H H' → ks.length ≤ i → J.stop i H'
  yld : ∀ i H' x H'', Same H H' → J.yld i H' x H'' → H'' = H' ∧ ∀ k, ks[i]? = some k → KAt H' x k
def Src (wi : TI) (σ : L2.St) (H : Hp) (ks : List NestedKey) : Prop := ∀ H1, Same H H1 → ∀ R : It → Hp → Prop, (∀ J H2, Same H1 H2 → Gives J H2 ks → R J H2) → wi σ H1 R
theorem Gives.mono {J : It} {H H' : Hp} {ks : List NestedKey} (g : Gives J H ks) (s : Same H H') : Gives J H' ks :=
  ⟨fun i a b c => g.go i a (s.tr b) c, fun i a b c => g.stop i a (s.tr b) c, fun i a x b c d => g.yld i a x b (s.tr c) d⟩
section
variable {K : PySem.W.Frag} {σ : L2.St} {H : Hp} {tl : TE} {ks : List NestedKey} {P : Program} {w : World}
theorem gives_list {a : Addr} {xs : List V} (h : SqL K H a xs) (hk : KAll H xs ks) (hf : ∀ H', Same H H' → ∀ ys, SqL K H' a ys → ys = xs) : Gives (Itl K a) H ks where
  go := fun i H' s hi => by
    obtain ⟨v, hv, _⟩ := hk.get (List.getElem?_eq_getElem hi)
    exact ⟨xs, v, sqL_same s h, hv⟩
  stop := fun i H' s hi => ⟨xs, sqL_same s h, by rw [hk.length]; exact hi⟩
  yld := fun i H' x H'' s y => by
    obtain ⟨e, y⟩ := y
    have y := y xs (sqL_same s h)
    refine ⟨e, fun k hk' => ?_⟩
    obtain ⟨v, hv, kv⟩ := hk.get hk'
    rw [y] at hv; cases hv
    exact kv.mono s
theorem gives_tup {a : Addr} {xs : List V} (h : SqT K H a xs) (hk : KAll H xs ks) : Gives (Itt K a) H ks where
  go := fun i H' s hi => by
    obtain ⟨v, hv, _⟩ := hk.get (List.getElem?_eq_getElem hi)
    exact ⟨xs, v, sqT_same s h, hv⟩
  stop := fun i H' s hi => ⟨xs, sqT_same s h, by rw [hk.length]; exact hi⟩
  yld := fun i H' x H'' s y => by
    obtain ⟨e, y⟩ := y
    have y := y xs (sqT_same s h)
    refine ⟨e, fun k hk' => ?_⟩
    obtain ⟨v, hv, kv⟩ := hk.get hk'
    rw [y] at hv; cases hv
    exact kv.mono s
theorem gives_list' {a : Addr} {xs : List V} (h : SqL K H a xs) (hk : KAll H xs ks) : Gives (Itl K a) H ks where
  go := fun i H' s hi => by
    obtain ⟨v, hv, _⟩ := hk.get (List.getElem?_eq_getElem hi)
    exact ⟨xs, v, sqL_same s h, hv⟩
  stop := fun i H' s hi => ⟨xs, sqL_same s h, by rw [hk.length]; exact hi⟩
  yld := fun i H' x H'' s y => by
    obtain ⟨e, y⟩ := y
    have y := y xs (sqL_same s h)
    refine ⟨e, fun k hk' => ?_⟩
    obtain ⟨v, hv, kv⟩ := hk.get hk'
    rw [y] at hv; cases hv
    exact kv.mono s
theorem gives_dn {d : Addr} {o : Obj} {kvs : List (NestedKey × V)} (hd : H d = some (exO d o)) (dn : DNo P w H d o kvs) : Gives (Itn P w d o kvs) H (kvs.map (·.1)) where
  go := fun i H' s hi => ⟨s _ _ hd, dn.keep (.of_same s), by simpa using hi⟩
  stop := fun i H' s hi => ⟨s _ _ hd, dn.keep (.of_same s), by simpa using hi⟩
  yld := fun i H' x H'' s y => by
    obtain ⟨e, k, v, hkv, hx⟩ := y
    refine ⟨e, fun k' hk' => ?_⟩
    rw [List.getElem?_map, hkv] at hk'
    cases hk'
    exact hx
theorem src_tup (h : EvK tl σ H (.tup ks)) : Src (iTup K tl) σ H ks := fun H1 s R r => h H1 s _ fun v H2 s2 hv => by
  obtain ⟨a, xs, rfl, h1, h2⟩ := hv.tupRef
  exact ⟨a, rfl, ⟨xs, .of h1⟩, r _ H2 s2 (gives_tup (.of h1) h2)⟩
theorem src_list (h : EvLK tl σ H ks) : Src (iList K tl) σ H ks := fun H1 s R r => h H1 s _ fun p xs H2 hp s2 h1 h2 => ⟨p, rfl, ⟨xs, .of h1⟩, r _ H2 s2 (gives_list' (.of h1) h2)⟩
theorem src_at {a : Addr} {xs : List V} (h : Ev tl σ H (.ref a)) (hs : SqL K H a xs) (hk : KAll H xs ks) : Src (iList K tl) σ H ks := fun H1 s R r => h H1 s _ fun H2 s2 =>
  ⟨a, rfl, ⟨xs, sqL_same (s.tr s2) hs⟩, r _ H2 s2 (gives_list' (sqL_same (s.tr s2) hs) (hk.mono (s.tr s2)))⟩
theorem src_dn {d : Addr} {kvs : List (NestedKey × V)} (h : Ev tl σ H (.ref d)) (dn : DN P w H d kvs) : Src (iDn P w tl) σ H (kvs.map (·.1)) := fun H1 s R r => h H1 s _ fun H2 s2 => by
  obtain ⟨o, hd, q⟩ := dn.same (s.tr s2)
  exact ⟨d, o, kvs, rfl, hd, q, r _ H2 s2 (gives_dn hd q)⟩
end

/-- an expression's value is such -/
def EvI (te : TE) (σ : L2.St) (H : Hp) (R : Hp → V → Prop) : Prop := ∀ H1, Same H H1 → ∀ Q : VK, (∀ v H2, Same H1 H2 → R H2 v → Q v H2) → te σ H1 Q
section
variable {σ : L2.St} {H : Hp} {wi : TI} {g : TG} {tt : TT} {te : TE} {vs : List Nat} {ks : List NestedKey}
theorem lc_I {f : NestedKey → Bool} {R : NestedKey → Hp → V → Prop} (mono : ∀ k H H' v, TupLe H H' → R k H v → R k H' v) (src : Src wi σ H ks) (hl : ks.length ≤ 40000)
    (turn : ∀ k ∈ ks, ∀ H1 x, Same H H1 → KAt H1 x k → ∀ Q : L2.St → Hp → Prop, (∀ σ2 H2, Same H1 H2 → wipe σ2 vs = wipe σ vs → EvT tt σ2 H2 (f k) → (f k = true → EvI te σ2 H2 (R k)) → Q σ2 H2) → g x (wipe σ vs) H1 Q) :
    ∀ H1, Same H H1 → ∀ Q : VK, (∀ p xs H2, H1 p = none → Same H1 H2 → H2 p = some (.lst xs) → Paired (fun x k => R k H2 x) xs (ks.filter f) → Q (.ref p) H2) → tLc wi g tt te vs σ H1 Q := by
  intro H1 s1 Q q
  refine src H1 s1 _ fun J H2 s2 gv => ?_
  intro D hD
  have upW : ∀ {Ha Hb : Hp} {xs : List V} {ls : List NestedKey}, Same Ha Hb → Paired (fun x k => R k Ha x) xs ls → Paired (fun x k => R k Hb x) xs ls := fun s h => Paired.mapP h fun a b r => mono b _ _ a (.of_same s) r
  refine ⟨fun i m H' => m = ks.length - i ∧ i ≤ ks.length ∧ ∃ acc, Same H2 H' ∧ H' D = some (.lst acc) ∧ Paired (fun x k => R k H' x) acc ((ks.take i).filter f), ⟨ks.length, by simp, Nat.zero_le _, [], .up hD, upd_same, by rw [List.take_zero]; exact .nil⟩, ?_⟩
  rintro i m H' ⟨rfl, hi, acc, s', hD', hp⟩
  rcases Nat.lt_or_ge i ks.length with lt | ge
  · obtain ⟨k, hk⟩ : ∃ k, ks[i]? = some k := ⟨_, List.getElem?_eq_getElem lt⟩
    have ek : ks.take (i + 1) = ks.take i ++ [k] := by rw [List.take_add_one, hk]; simp
    have la : acc.length ≤ ks.length := by
      rw [Paired.length hp]
      exact Nat.le_trans (List.length_filter_le _ _) (by rw [List.length_take]; omega)
    refine .inr ⟨gv.go i H' s' lt, fun H3 => i + 1 ≤ ks.length ∧ ∃ acc, Same H2 H3 ∧ H3 D = some (.lst acc) ∧ Paired (fun x k => R k H3 x) acc ((ks.take (i + 1)).filter f), fun H3 ⟨a1, a2⟩ => ⟨_, by omega, rfl, a1, a2⟩, fun x H3 y => ?_⟩
    obtain ⟨rfl, hx⟩ := gv.yld i H' x H3 s' y
    refine turn k (List.mem_of_getElem? hk) H3 x (s1.tr (s2.tr s')) (hx k hk) _ fun σ2 H4 s4 hw ht he => ⟨hw, ht H4 (Evl.Ex.refl _) _ fun H5 s5 => ?_⟩
    have s45 : Same H3 H5 := s4.tr s5
    cases hf : f k with
    | false =>
      rw [if_neg Bool.false_ne_true]
      refine ⟨lt, acc, s'.tr s45, s45 _ _ hD', ?_⟩
      rw [ek, List.filter_append, List.filter_cons, hf]
      simpa using upW s45 hp
    | true =>
      rw [if_pos rfl]
      refine he hf H5 s5 _ fun v H6 s6 hv => ?_
      have s36 : Same H3 H6 := s45.tr s6
      refine ⟨acc, s36 _ _ hD', Nat.lt_of_le_of_lt (Nat.le_trans la hl) (by decide), lt, acc ++ [v], (s'.tr s36).up2 hD, upd_same, ?_⟩
      rw [ek, List.filter_append, List.filter_cons, hf]
      have tl : TupLe H6 (upd H6 D (.lst (acc ++ [v]))) := fun b ys e => by
        rw [upd_ne (ne_of e (s36 _ _ hD') (by intro z; cases z))]; exact e
      exact Paired.snoc (Paired.mapP (upW s36 hp) fun a b r => mono b _ _ a tl r) (mono k _ _ v tl hv)
  · obtain rfl : i = ks.length := by omega
    refine .inl ⟨gv.stop _ H' s' (Nat.le_refl _), q D acc H' (s2.no hD) (s2.tr s') hD' ?_⟩
    rw [List.take_length] at hp
    exact hp

theorem ek_mono (k : NestedKey) (H H' : Hp) (v : V) (t : TupLe H H') (h : KAt H v k) : KAt H' v k := KAt.keep t k v h
theorem paired_kall {H : Hp} {f : NestedKey → NestedKey} : ∀ {xs : List V} {ks : List NestedKey}, Paired (fun x k => KAt H x (f k)) xs ks → KAll H xs (ks.map f)
  | _, _, .nil => .nil
  | _, _, .cons h t => .cons h (paired_kall t)
theorem paired_eq {f : NestedKey → V} : ∀ {xs : List V} {ks : List NestedKey}, Paired (fun x k => x = f k) xs ks → xs = ks.map f
  | _, _, .nil => rfl
  | _, _, .cons h t => by rw [List.map_cons, h, paired_eq t]
/-- [e for target in source if test], e a datum -/
theorem el_lc {f : NestedKey → Bool} {v : NestedKey → NestedKey} (src : Src wi σ H ks) (hl : ks.length ≤ 40000)
    (turn : ∀ k ∈ ks, ∀ H1 x, Same H H1 → KAt H1 x k → ∀ Q : L2.St → Hp → Prop, (∀ σ2 H2, Same H1 H2 → wipe σ2 vs = wipe σ vs → EvT tt σ2 H2 (f k) → (f k = true → EvK te σ2 H2 (v k)) → Q σ2 H2) → g x (wipe σ vs) H1 Q) :
    EvLK (tLc wi g tt te vs) σ H ((ks.filter f).map v) := fun H1 s Q q =>
  lc_I (R := fun k H x => KAt H x (v k)) (fun k _ _ x t h => KAt.keep t _ x h) src hl turn H1 s Q fun p xs H2 hp s2 h1 h2 => q p xs H2 hp s2 h1 (paired_kall h2)
/-- .. e a plain value -/
theorem el_lcV {f : NestedKey → Bool} {v : NestedKey → V} (src : Src wi σ H ks) (hl : ks.length ≤ 40000)
    (turn : ∀ k ∈ ks, ∀ H1 x, Same H H1 → KAt H1 x k → ∀ Q : L2.St → Hp → Prop, (∀ σ2 H2, Same H1 H2 → wipe σ2 vs = wipe σ vs → EvT tt σ2 H2 (f k) → (f k = true → Ev te σ2 H2 (v k)) → Q σ2 H2) → g x (wipe σ vs) H1 Q) :
    Evl.EvL (tLc wi g tt te vs) σ H ((ks.filter f).map v) := fun H1 s Q q =>
  lc_I (R := fun k _ x => x = v k) (fun _ _ _ _ _ h => h) src hl (fun k hk Ha x sa hx Qa qa => turn k hk Ha x sa hx Qa fun σ2 Hb sb hw ht he => qa σ2 Hb sb hw ht fun hf => fun Hc sc Qc qc => he hf Hc sc Qc fun Hd sd => qc _ Hd sd rfl) H1 s Q fun p xs H2 hp s2 h1 h2 => q p H2 hp s2 (by rw [← paired_eq h2]; exact h1)
/-- the target a name -/
theorem turn_name {j : Nat} {k : NestedKey} {f : Bool} {R : L2.St → Hp → Prop} {H1 : Hp} {x : V} (hx : KAt H1 x k) (hw : wipe ((wipe σ vs).set j (some x)) vs = wipe σ vs) (ht : EvT tt ((wipe σ vs).set j (some x)) H1 f) (he : f = true → R ((wipe σ vs).set j (some x)) H1) :
    ∀ Q : L2.St → Hp → Prop, (∀ σ2 H2, Same H1 H2 → wipe σ2 vs = wipe σ vs → EvT tt σ2 H2 f → (f = true → R σ2 H2) → Q σ2 H2) → gName j x (wipe σ vs) H1 Q := fun Q q => q _ H1 (.rf _) hw ht he
theorem et_yes : EvT tYes σ H true := fun H1 _ _ q => q H1 (Evl.Ex.refl _)
theorem et_B {t : TE} {b : Bool} (h : Ev t σ H (.bl b)) : EvT (tB t) σ H b := Evl.et_B h
theorem et_T {t : TE} {b : Bool} (h : Ev t σ H (.bl b)) : EvT (tTest t) σ H b := Evl.et_test h
end
section
variable {K : PySem.W.Frag} {σ : L2.St} {H : Hp} {te ta tb : TE} {t : TT} {ks ls : List NestedKey} {k : NestedKey}
theorem ek_if {b : Bool} (h : EvT t σ H b) (h1 : b = true → EvK ta σ H k) (h2 : b = false → EvK tb σ H k) : EvK (tIf t ta tb) σ H k := fun H1 e Q q => h H1 e _ fun H2 e2 => by
  cases b with
  | true =>
    show ta σ H2 Q
    exact h1 rfl H2 (e.tr e2) Q fun v H3 e3 hv => q v H3 (e2.tr e3) hv
  | false =>
    show tb σ H2 Q
    exact h2 rfl H2 (e.tr e2) Q fun v H3 e3 hv => q v H3 (e2.tr e3) hv
abbrev rLen0 (K : PySem.W.Frag) : List V → Hp → VK → Prop := fun xs H Q => ∃ p ys, xs = [.ref p] ∧ (SqL K H p ys ∨ SqT K H p ys) ∧ Q (.int ys.length) H
theorem ek_len (h : EvK ta σ H (.tup ks)) : Ev (tCB (rLen0 K) (tCons ta tNil)) σ H (.int ks.length) := fun H1 e Q q => h H1 e _ fun v H2 e2 hv => by
  obtain ⟨a, xs, rfl, h1, h2⟩ := hv.tupRef
  exact ⟨a, xs, rfl, .inr (.of h1), by rw [h2.length]; exact q H2 e2⟩
theorem el_len (h : EvLK ta σ H ks) : Ev (tCB (rLen0 K) (tCons ta tNil)) σ H (.int ks.length) := fun H1 e Q q => h H1 e _ fun p xs H2 hp e2 h1 h2 =>
  ⟨p, xs, rfl, .inl (.of h1), by rw [h2.length]; exact q H2 e2⟩
theorem ev_lenAt {a : Addr} {xs : List V} (h : Ev ta σ H (.ref a)) (hs : SqL K H a xs) : Ev (tCB (rLen0 K) (tCons ta tNil)) σ H (.int xs.length) := fun H1 e Q q => h H1 e _ fun H2 e2 =>
  ⟨a, xs, rfl, .inl (sqL_same (e.tr e2) hs), q H2 e2⟩
abbrev rTupOf (K : PySem.W.Frag) : List V → Hp → VK → Prop := fun xs H Q => ∃ p ys, xs = [.ref p] ∧ ((SqL K H p ys ∧ ∀ l, H l = none → Q (.ref l) (upd H l (.tup ys))) ∨ (SqT K H p ys ∧ Q (.ref p) H))
theorem ek_tupOf (h : EvLK ta σ H ks) : EvK (tCB (rTupOf K) (tCons ta tNil)) σ H (.tup ks) := fun H1 e Q q => h H1 e _ fun p xs H2 hp e2 h1 h2 =>
  ⟨p, xs, rfl, .inl ⟨.of h1, fun l hl => q _ _ (e2.tr (.up hl)) (.tup upd_same (h2.mono (.up hl)))⟩⟩
theorem eo_int {i : Int} : EvO (tPart (tC (.int i))) σ H (some i) := Evl.eo_some Evl.ev_c
theorem eo_non : EvO tNoPart σ H none := Evl.eo_none
theorem ev_neg1 : Ev (tUn (rU fun i => .int (-i)) (tC (.int 1))) σ H (.int (-1)) := Evl.ev_un Evl.ev_c Evl.ru_neg
theorem eb_leI {i j : Int} (ha : Ev ta σ H (.int i)) (hb : Ev tb σ H (.int j)) : Ev (tOp (rI0 fun i j => .bl (decide (i ≤ j))) ta tb) σ H (.bl (decide (i ≤ j))) := Evl.ev_op ha hb Evl.rv_I0
theorem eb_ltI {i j : Int} (ha : Ev ta σ H (.int i)) (hb : Ev tb σ H (.int j)) : Ev (tOp (rI0 fun i j => .bl (decide (i < j))) ta tb) σ H (.bl (decide (i < j))) := Evl.ev_op ha hb Evl.rv_I0
theorem eb_gtI {i j : Int} (ha : Ev ta σ H (.int i)) (hb : Ev tb σ H (.int j)) : Ev (tOp (rI0 fun i j => .bl (decide (j < i))) ta tb) σ H (.bl (decide (j < i))) := Evl.ev_op ha hb Evl.rv_I0
end
end CB
/-! CBMirror -/
set_option Elab.async false
set_option autoImplicit false
set_option linter.all false
namespace CB
open PySem

/-! association lists in the order of insertion -/
section
variable {κ β : Type} [DecidableEq κ]
def aget (m : List (κ × β)) (k : κ) : Option β := (m.find? fun p => decide (p.1 = k)).map (·.2)
def aput (m : List (κ × β)) (k : κ) (v : β) : List (κ × β) :=
  if (m.any fun p => decide (p.1 = k)) = true then m.map (fun p => if p.1 = k then (p.1, v) else p) else m ++ [(k, v)]
def adel (m : List (κ × β)) (k : κ) : List (κ × β) := m.filter fun p => decide (p.1 ≠ k)
def akeys (m : List (κ × β)) : List κ := m.map (·.1)

theorem aget_nil (k : κ) : aget ([] : List (κ × β)) k = none := rfl
theorem aget_cons (p : κ × β) (m : List (κ × β)) (k : κ) : aget (p :: m) k = if p.1 = k then some p.2 else aget m k := by
  unfold aget
  by_cases h : p.1 = k
  · simp [List.find?_cons, h]
  · simp [List.find?_cons, h]
theorem aget_isSome (m : List (κ × β)) (k : κ) : (aget m k).isSome = (m.any fun p => decide (p.1 = k)) := by
  induction m with
  | nil => rfl
  | cons p m ih =>
    rw [aget_cons, List.any_cons]
    by_cases h : p.1 = k
    · simp [h]
    · simp [h, ih]
theorem any_keys (m : List (κ × β)) (k : κ) : (m.any fun p => decide (p.1 = k)) = true ↔ k ∈ akeys m := by
  unfold akeys
  rw [List.any_eq_true, List.mem_map]
  constructor
  · rintro ⟨p, hp, e⟩; exact ⟨p, hp, of_decide_eq_true e⟩
  · rintro ⟨p, hp, e⟩; exact ⟨p, hp, decide_eq_true e⟩
theorem aget_some_iff (m : List (κ × β)) (k : κ) : (aget m k).isSome = true ↔ k ∈ akeys m := by
  rw [aget_isSome, any_keys]
theorem aget_mem {m : List (κ × β)} {k : κ} {v : β} (h : aget m k = some v) : (k, v) ∈ m := by
  unfold aget at h
  obtain ⟨p, hp, e⟩ := Option.map_eq_some_iff.mp h
  have h1 := List.mem_of_find?_eq_some hp
  have h2 : p.1 = k := by
    have q := List.find?_some hp
    exact of_decide_eq_true (by simpa using q)
  obtain ⟨a, b⟩ := p
  simp only at h2 e
  subst h2; subst e
  exact h1
theorem akeys_aput (m : List (κ × β)) (k : κ) (v : β) : akeys (aput m k v) = if k ∈ akeys m then akeys m else akeys m ++ [k] := by
  unfold aput
  by_cases h : (m.any fun p => decide (p.1 = k)) = true
  · rw [if_pos h, if_pos ((any_keys m k).mp h)]
    unfold akeys
    rw [List.map_map]
    refine List.map_congr_left fun p _ => ?_
    show (if p.1 = k then (p.1, v) else p).1 = p.1
    split <;> rfl
  · rw [if_neg h, if_neg fun q => h ((any_keys m k).mpr q)]
    simp [akeys]
theorem akeys_aput_has {m : List (κ × β)} {k : κ} (v : β) (h : k ∈ akeys m) : akeys (aput m k v) = akeys m := by
  rw [akeys_aput, if_pos h]
theorem akeys_aput_new {m : List (κ × β)} {k : κ} (v : β) (h : k ∉ akeys m) : akeys (aput m k v) = akeys m ++ [k] := by
  rw [akeys_aput, if_neg h]
theorem mem_akeys_aput {m : List (κ × β)} {k j : κ} {v : β} : j ∈ akeys (aput m k v) ↔ j = k ∨ j ∈ akeys m := by
  rw [akeys_aput]
  split
  · rename_i h
    constructor
    · exact .inr
    · rintro (e | e)
      · subst e; exact h
      · exact e
  · rw [List.mem_append, List.mem_singleton]
    exact Or.comm
theorem aget_aput (m : List (κ × β)) (k j : κ) (v : β) : aget (aput m k v) j = if j = k then some v else aget m j := by
  unfold aput
  by_cases h : (m.any fun p => decide (p.1 = k)) = true
  · rw [if_pos h]
    have key : ∀ m : List (κ × β), aget (m.map fun p => if p.1 = k then (p.1, v) else p) j = if j = k then (aget m k).map (fun _ => v) else aget m j := by
      intro m
      induction m with
      | nil => simp [aget_nil]
      | cons p m ih =>
        rw [List.map_cons, aget_cons, ih, aget_cons, aget_cons]
        by_cases h1 : p.1 = k
        · by_cases h2 : j = k
          · subst h2; simp [h1]
          · have h3 : ¬ p.1 = j := fun e => h2 (e.symm.trans h1)
            have h4 : ¬ k = j := fun e => h2 e.symm
            simp [h1, h2, h4]
        · by_cases h2 : j = k
          · subst h2; simp [h1]
          · simp [h1, h2]
    rw [key]
    split
    · rw [← aget_isSome] at h
      obtain ⟨x, hx⟩ := Option.isSome_iff_exists.mp h
      rw [hx]; rfl
    · rfl
  · rw [if_neg h]
    have key : ∀ m : List (κ × β), ¬ (m.any fun p => decide (p.1 = k)) = true → aget (m ++ [(k, v)]) j = if j = k then some v else aget m j := by
      intro m
      induction m with
      | nil => intro _; rw [List.nil_append, aget_cons, aget_nil]; exact ite_congr (propext ⟨Eq.symm, Eq.symm⟩) (fun _ => rfl) (fun _ => rfl)
      | cons p m ih =>
        intro hn
        rw [List.any_cons] at hn
        have h1 : ¬ p.1 = k := fun e => hn (by simp [e])
        have h2 : ¬ (m.any fun p => decide (p.1 = k)) = true := fun e => hn (by rw [e, Bool.or_true])
        rw [List.cons_append, aget_cons, ih h2, aget_cons]
        by_cases e : j = k
        · subst e; simp [h1]
        · simp [e]
    exact key m h
theorem akeys_adel (m : List (κ × β)) (k : κ) : akeys (adel m k) = (akeys m).filter fun j => decide (j ≠ k) := by
  unfold akeys adel
  rw [List.filter_map]; rfl
theorem mem_akeys_adel {m : List (κ × β)} {k j : κ} : j ∈ akeys (adel m k) ↔ j ∈ akeys m ∧ j ≠ k := by
  rw [akeys_adel, List.mem_filter, decide_eq_true_iff]
theorem nodup_aput {m : List (κ × β)} {k : κ} {v : β} (h : (akeys m).Nodup) : (akeys (aput m k v)).Nodup := by
  rw [akeys_aput]
  split
  · exact h
  · rename_i hn
    rw [List.nodup_append]
    exact ⟨h, by simp, fun a ha b hb => by rw [List.mem_singleton] at hb; subst hb; intro e; subst e; exact hn ha⟩
theorem nodup_adel {m : List (κ × β)} {k : κ} (h : (akeys m).Nodup) : (akeys (adel m k)).Nodup := by
  rw [akeys_adel]; exact h.filter _
theorem length_aput_new {m : List (κ × β)} {k : κ} (v : β) (h : k ∉ akeys m) : (aput m k v).length = m.length + 1 := by
  have e := congrArg List.length (akeys_aput_new v h)
  simpa [akeys] using e
theorem length_aput_has {m : List (κ × β)} {k : κ} (v : β) (h : k ∈ akeys m) : (aput m k v).length = m.length := by
  have e := congrArg List.length (akeys_aput_has v h)
  simpa [akeys] using e
theorem filter_ne_length {l : List κ} {k : κ} (hn : l.Nodup) (h : k ∈ l) : (l.filter fun j => decide (j ≠ k)).length + 1 = l.length := by
  induction l with
  | nil => cases h
  | cons a l ih =>
    obtain ⟨h1, h2⟩ := List.nodup_cons.mp hn
    by_cases e : a = k
    · subst e
      have : (l.filter fun j => decide (j ≠ a)) = l := List.filter_eq_self.mpr fun j hj => decide_eq_true fun z => h1 (z ▸ hj)
      rw [List.filter_cons, if_neg (by simp), this, List.length_cons]
    · have hm : k ∈ l := by
        rcases List.mem_cons.mp h with z | z
        · exact absurd z.symm e
        · exact z
      rw [List.filter_cons, if_pos (by simp [e]), List.length_cons, ih h2 hm, List.length_cons]
theorem length_adel {m : List (κ × β)} {k : κ} (hn : (akeys m).Nodup) (h : k ∈ akeys m) : (adel m k).length + 1 = m.length := by
  have e := filter_ne_length hn h
  rw [← akeys_adel] at e
  simpa [akeys] using e
theorem aget_adel (m : List (κ × β)) (k j : κ) : aget (adel m k) j = if j = k then none else aget m j := by
  induction m with
  | nil => simp [adel, aget_nil]
  | cons p m ih =>
    unfold adel at ih ⊢
    by_cases h : p.1 = k
    · rw [List.filter_cons, if_neg (by simp [h]), ih, aget_cons]
      by_cases e : j = k
      · simp [e]
      · have h4 : ¬ k = j := fun z => e z.symm
        simp [e, h, h4]
    · rw [List.filter_cons, if_pos (by simp [h]), aget_cons, ih, aget_cons]
      by_cases e : j = k
      · subst e; simp [h]
      · simp [e]
end

/-! pages -/
inductive Pg where
  | house (d : Int) (a : Str) (h : List Int)
  | part (d : Int) (a b : Str) (h : List Int)
  | join (d : Int) (a b : Str)
  | home (d : Int) (a : Str) (h : List Int)
  | mourn (d : Int) (a : Str) (m : Int)
  | ahead (d : Int) (a b : Str)
  | card (d : Int) (a b : Str)
  | visit (d : Int) (a b : Str)
  deriving DecidableEq
namespace Pg
def day : Pg → Int
  | .house d _ _ | .part d _ _ _ | .join d _ _ | .home d _ _ | .mourn d _ _ | .ahead d _ _ | .card d _ _ | .visit d _ _ => d
def names : Pg → List Str
  | .house _ a _ | .home _ a _ | .mourn _ a _ => [a]
  | .part _ a b _ | .join _ a b | .ahead _ a b | .card _ a b | .visit _ a b => [a, b]
def isPart : Pg → Bool
  | .part .. => true
  | _ => false
def isGo : Pg → Bool
  | .card .. | .visit .. => true
  | _ => false
/-- of a going: who goes, to whom -/
def ends : Pg → Str × Str
  | .card _ a b | .visit _ a b => (a, b)
  | .house _ a _ | .home _ a _ | .mourn _ a _ => (a, a)
  | .part _ a b _ | .join _ a b | .ahead _ a b => (a, b)
end Pg

abbrev Due := Str × Str × Pg
inductive Mk where
  | idle | done | due | ans (n : Nat)
  deriving DecidableEq

/-! who stands -/
structure HS where
  stands : List Str
  came : List Str
  idle : List Pg
namespace HS
def start : HS := ⟨[], [], []⟩
def can (s : HS) : Pg → Bool
  | .house _ a _ => !decide (a ∈ s.came)
  | .part _ a b _ => decide (a ∈ s.stands) && !decide (b ∈ s.came)
  | .join _ a b | .ahead _ a b | .card _ a b | .visit _ a b => decide (a ∈ s.stands) && decide (b ∈ s.stands)
  | .home _ a _ | .mourn _ a _ => decide (a ∈ s.stands)
def come (s : HS) (n : Str) : HS := { s with stands := s.stands ++ [n], came := s.came ++ [n] }
def act (s : HS) : Pg → HS
  | .house _ a _ => s.come a
  | .part _ _ b _ => s.come b
  | .join _ _ b => { s with stands := s.stands.filter fun n => decide (n ≠ b) }
  | _ => s
def meet (s : HS) (p : Pg) : HS := if s.can p = true then s.act p else { s with idle := s.idle ++ [p] }
end HS
def idleOf (ps : List Pg) : List Pg := (ps.foldl HS.meet HS.start).idle

/-! the walk -/
structure WS where
  homes : List (Str × List Int)
  mourned : List (Str × List (Int × Int))
  sorts : List (Pg × Str)
  falls : List (Due × List Int)
  marks : List (Pg × Mk)
  answers : List (Pg × List Due)
  made : Int
  copied : Int
  struck : Int
  merged : Int

def lastI (l : List Int) : Int := l.getLastD 0
def lexLe : List Int → List Int → Bool
  | [], _ => true
  | _ :: _, [] => false
  | x :: xs, y :: ys => if x = y then lexLe xs ys else decide (x < y)
def stays (one other : List Int) : Bool :=
  if one.length ≠ other.length then decide (other.length < one.length)
  else if one ≠ [] ∧ lastI one ≠ lastI other then decide (lastI one < lastI other)
  else lexLe one other

def sV : Str := "visit"
def sC : Str := "card"
def termOf (t : Int × Int) (s : Str) : Int := if s = sV then t.1 else t.2

namespace WS
def start : WS := ⟨[], [], [], [], [], [], 0, 0, 0, 0⟩
def homeOf (w : WS) (n : Str) : List Int := (aget w.homes n).getD []
def mournOf (w : WS) (n : Str) : List (Int × Int) := (aget w.mourned n).getD []
def sortOf (w : WS) (p : Pg) : Str := (aget w.sorts p).getD sC
def fallsOf (w : WS) (d : Due) : List Int := (aget w.falls d).getD []
def mourns (w : WS) (n : Str) (day : Int) : Bool := (w.mournOf n).any fun p => decide (p.1 ≤ day) && decide (day ≤ p.2)
def isMet (w : WS) : Pg → Bool
  | .visit d a b => decide (d % 7 ∈ w.homeOf b) && (!w.mourns a d && !w.mourns b d)
  | _ => false
def goSort (w : WS) (p : Pg) : Str := if w.isMet p = true then sV else sC
def paysB (w : WS) (s a b : Str) (d : Due) : Bool := (decide (d.1 = a) && decide (d.2.1 = b)) && (decide (s = sV) || decide (s = w.sortOf d.2.2))
def paidOf (w : WS) (s a b : Str) : List Due := (akeys w.falls).filter (w.paysB s a b)
def goMade (w : WS) (p : Pg) (a b : Str) : WS := { w with sorts := aput w.sorts p (w.goSort p), falls := aput w.falls (b, a, p) [], made := w.made + 1 }
def goPaid (w : WS) (p : Pg) (paid : List Due) : WS := { w with falls := paid.foldl adel w.falls, answers := w.answers ++ [(p, paid)] }
def go (w : WS) (p : Pg) (a b : Str) : WS × Mk :=
  if w.paidOf (w.goSort p) a b = [] then (w.goMade p a b, .due)
  else (w.goPaid p (w.paidOf (w.goSort p) a b), .ans (w.paidOf (w.goSort p) a b).length)
def partStep (name fresh : Str) (w : WS) (d : Due) : WS :=
  if d.1 = name then { w with falls := aput w.falls (fresh, d.2) (w.fallsOf d), copied := w.copied + 1 } else w
def part (w : WS) (name fresh : Str) : WS := (akeys w.falls).foldl (partStep name fresh) w
def lay (w : WS) (d : Due) (f : List Int) : WS :=
  match aget w.falls d with
  | none => { w with falls := aput w.falls d f }
  | some t => if stays t f = true then { w with merged := w.merged + 1 } else { w with merged := w.merged + 1, falls := aput w.falls d f }
def sub (name gone x : Str) : Str := if x = gone then name else x
def joinStep (name gone : Str) (w : WS) (d : Due) : WS :=
  if gone = d.1 ∨ gone = d.2.1 then
    if sub name gone d.1 = sub name gone d.2.1 then { w with falls := adel w.falls d, struck := w.struck + 1 }
    else ({ w with falls := adel w.falls d } : WS).lay (sub name gone d.1, sub name gone d.2.1, d.2.2) (w.fallsOf d)
  else w
def join (w : WS) (name gone : Str) : WS := (akeys w.falls).foldl (joinStep name gone) w
def act (w : WS) : Pg → WS × Mk
  | .card d a b => w.go (.card d a b) a b
  | .visit d a b => w.go (.visit d a b) a b
  | .part _ a b h => ({ w.part a b with homes := aput w.homes b h }, .done)
  | .join _ a b => (w.join a b, .done)
  | .house _ a h | .home _ a h => ({ w with homes := aput w.homes a h }, .done)
  | .mourn d a m => ({ w with mourned := aput w.mourned a (w.mournOf a ++ [(d, d + m - 1)]) }, .done)
  | .ahead .. => (w, .done)
def put (lost : List Pg) (w : WS) (p : Pg) : WS × Mk := if p ∈ lost then (w, .idle) else w.act p
def mark (lost : List Pg) (w : WS) (p : Pg) : WS := { (w.put lost p).1 with marks := w.marks ++ [(p, (w.put lost p).2)] }
def fallStep (t : Int × Int) (day : Int) (w : WS) (d : Due) : WS :=
  if 0 < termOf t (w.sortOf d.2.2) - ((w.fallsOf d).length : Int) ∧ d.2.2.day < day ∧ w.mourns d.1 day = false ∧ w.mourns d.2.1 day = false
  then { w with falls := aput w.falls d (w.fallsOf d ++ [day]) } else w
def fall (t : Int × Int) (w : WS) (day : Int) : WS := (akeys w.falls).foldl (fallStep t day) w
def eat (lost : List Pg) (day : Int) : List Pg → WS → WS × List Pg
  | [], w => (w, [])
  | p :: r, w => if p.day = day then eat lost day r (w.mark lost p) else (w, p :: r)
def runDay (t : Int × Int) (lost : List Pg) (s : WS × List Pg) (day : Int) : WS × List Pg :=
  ((eat lost day s.2 s.1).1.fall t day, (eat lost day s.2 s.1).2)
/-- the days from first on, n of them -/
def run (t : Int × Int) (lost : List Pg) (first : Int) : Nat → WS × List Pg → WS × List Pg
  | 0, s => s
  | n + 1, s => run t lost (first + 1) n (runDay t lost s first)
def goTo (t : Int × Int) (book : List Pg) (last : Int) : WS :=
  match book.filter fun p => decide (p.day ≤ last) with
  | [] => start
  | p :: r => (run t (idleOf (p :: r)) p.day (last + 1 - p.day).toNat (start, p :: r)).1
end WS
end CB
/-! CBMath -/
set_option Elab.async false
set_option autoImplicit false
set_option linter.all false
namespace CB
open PySem

/-! the idle pages -/
theorem HS.idle_meet (s : HS) (p : Pg) : (s.meet p).idle = s.idle ++ (if s.can p = true then [] else [p]) := by
  unfold HS.meet
  split
  · rw [List.append_nil]
    cases p <;> rfl
  · rfl
theorem HS.idle_fold : ∀ (ps : List Pg) (s : HS) (q : Pg), q ∈ (ps.foldl HS.meet s).idle → q ∈ s.idle ∨ q ∈ ps
  | [], s, q, h => .inl h
  | p :: ps, s, q, h => by
    rcases HS.idle_fold ps (s.meet p) q h with h | h
    · rw [HS.idle_meet, List.mem_append] at h
      rcases h with h | h
      · exact .inl h
      · split at h
        · cases h
        · exact .inr (by rw [List.mem_singleton] at h; exact h ▸ List.mem_cons_self)
    · exact .inr (List.mem_cons_of_mem _ h)
theorem HS.idle_mono : ∀ (ps : List Pg) (s : HS) (q : Pg), q ∈ s.idle → q ∈ (ps.foldl HS.meet s).idle
  | [], s, q, h => h
  | p :: ps, s, q, h => HS.idle_mono ps (s.meet p) q (by rw [HS.idle_meet]; exact List.mem_append_left _ h)
/-- of unlike pages one is idle where it can't be done when it comes -/
theorem lost_iff {pre post : List Pg} {p : Pg} (hn : (pre ++ p :: post).Nodup) : p ∈ idleOf (pre ++ p :: post) ↔ (pre.foldl HS.meet HS.start).can p = false := by
  unfold idleOf
  rw [List.foldl_append, List.foldl_cons]
  obtain ⟨h1, h2, h3⟩ := List.nodup_append.mp hn
  have hpost : p ∉ post := (List.nodup_cons.mp h2).1
  have hpre : p ∉ pre := fun h => h3 p h p List.mem_cons_self rfl
  constructor
  · intro h
    rcases HS.idle_fold _ _ _ h with h | h
    · rw [HS.idle_meet, List.mem_append] at h
      rcases h with h | h
      · rcases HS.idle_fold _ _ _ h with h | h
        · exact (by cases h)
        · exact absurd h hpre
      · split at h
        · cases h
        · rename_i hc
          simpa using hc
    · exact absurd h hpost
  · intro h
    refine HS.idle_mono _ _ _ ?_
    rw [HS.idle_meet, if_neg (by rw [h]; exact Bool.false_ne_true)]
    exact List.mem_append_right _ (List.mem_singleton.mpr rfl)

def ansOf (x : Pg × Mk) : Option (Pg × Nat) := match x.2 with
  | .ans n => some (x.1, n)
  | _ => none
def markOk (x : Pg × Mk) : Prop := match x.2 with
  | .idle => True
  | .done => x.1.isGo = false
  | .due => x.1.isGo = true
  | .ans n => x.1.isGo = true ∧ 0 < n
def lenSum (l : List (Pg × List Due)) : Nat := (l.map fun x => x.2.length).sum

/-- what holds of the walk's state behind the pages pre -/
structure MI (pre : List Pg) (s : HS) (w : WS) : Prop where
  nodup : (akeys w.falls).Nodup
  own : ∀ d ∈ akeys w.falls, d.1 ∈ s.stands ∧ d.2.1 ∈ s.stands ∧ d.1 ≠ d.2.1
  page : ∀ d ∈ akeys w.falls, (d.2.2, Mk.due) ∈ w.marks
  sorts : ∀ p, (p, Mk.due) ∈ w.marks → p ∈ akeys w.sorts
  homes : ∀ n ∈ s.stands, n ∈ akeys w.homes
  sub : ∀ n ∈ s.stands, n ∈ s.came
  cons : w.made + w.copied = (w.falls.length : Int) + (lenSum w.answers : Int) + w.struck + w.merged
  made : w.made = ((w.marks.countP fun x => decide (x.2 = Mk.due)) : Int)
  marks : w.marks.map (·.1) = pre
  answers : (w.answers.map fun x => (x.1, x.2.length)) = w.marks.filterMap ansOf
  ans : ∀ x ∈ w.answers, ∀ d ∈ x.2, (d.1, d.2.1) = x.1.ends ∧ (d.2.2, Mk.due) ∈ w.marks
  goes : ∀ x ∈ w.marks, markOk x

theorem MI.start : MI [] HS.start WS.start where
  nodup := List.nodup_nil
  own := fun d h => (by cases h)
  page := fun d h => (by cases h)
  sorts := fun d h => (by cases h)
  homes := fun d h => (by cases h)
  sub := fun d h => (by cases h)
  cons := rfl
  made := rfl
  marks := rfl
  answers := rfl
  ans := fun d h => (by cases h)
  goes := fun d h => (by cases h)

/-- the state changes in its falls and counts alone -/
structure Aside (w w' : WS) : Prop where
  homes : w'.homes = w.homes
  mourned : w'.mourned = w.mourned
  sorts : w'.sorts = w.sorts
  marks : w'.marks = w.marks
  answers : w'.answers = w.answers
  made : w'.made = w.made
theorem Aside.refl (w : WS) : Aside w w := ⟨rfl, rfl, rfl, rfl, rfl, rfl⟩
theorem Aside.trans {a b c : WS} (h : Aside a b) (k : Aside b c) : Aside a c :=
  ⟨k.homes.trans h.homes, k.mourned.trans h.mourned, k.sorts.trans h.sorts, k.marks.trans h.marks, k.answers.trans h.answers, k.made.trans h.made⟩

/-! parting -/
theorem part_fold {a b : Str} {ks : List Due} (hb : ∀ d ∈ ks, d.1 ≠ b) : ∀ (L : List Due) (w : WS), L.Nodup → (∀ d ∈ L, d ∈ ks) → (akeys w.falls).Nodup → (∀ d ∈ ks, d ∈ akeys w.falls) →
    (∀ d ∈ akeys w.falls, d ∈ ks ∨ (d.1 = b ∧ (a, d.2) ∈ ks)) → (∀ d ∈ L, d.1 = a → (b, d.2) ∉ akeys w.falls) →
    Aside w (L.foldl (WS.partStep a b) w) ∧ (akeys (L.foldl (WS.partStep a b) w).falls).Nodup ∧ (L.foldl (WS.partStep a b) w).struck = w.struck ∧ (L.foldl (WS.partStep a b) w).merged = w.merged ∧
    (L.foldl (WS.partStep a b) w).copied - ((L.foldl (WS.partStep a b) w).falls.length : Int) = w.copied - (w.falls.length : Int) ∧
    (∀ d ∈ akeys (L.foldl (WS.partStep a b) w).falls, d ∈ ks ∨ (d.1 = b ∧ (a, d.2) ∈ ks)) ∧ (L.foldl (WS.partStep a b) w).falls.length ≤ w.falls.length + L.length
  | [], w, _, _, h1, _, h2, _ => ⟨Aside.refl w, h1, rfl, rfl, rfl, h2, Nat.le_refl _⟩
  | d :: L, w, hn, hk, h1, hk2, h2, h3 => by
    obtain ⟨hd, hL⟩ := List.nodup_cons.mp hn
    rw [List.foldl_cons]
    by_cases e : d.1 = a
    · have es : WS.partStep a b w d = { w with falls := aput w.falls (b, d.2) (w.fallsOf d), copied := w.copied + 1 } := by
        unfold WS.partStep; rw [if_pos e]
      have hnew := h3 d List.mem_cons_self e
      have ek : akeys (WS.partStep a b w d).falls = akeys w.falls ++ [(b, d.2)] := by rw [es]; exact akeys_aput_new _ hnew
      have el : (WS.partStep a b w d).falls.length = w.falls.length + 1 := by rw [es]; exact length_aput_new _ hnew
      have ih := part_fold hb L (WS.partStep a b w d) hL (fun x hx => hk x (List.mem_cons_of_mem _ hx)) (by rw [es]; exact nodup_aput h1) (fun x hx => by rw [ek]; exact List.mem_append_left _ (hk2 x hx)) (fun x hx => by
        rw [ek, List.mem_append, List.mem_singleton] at hx
        rcases hx with hx | hx
        · exact h2 x hx
        · subst hx
          refine .inr ⟨rfl, ?_⟩
          have : (a, d.2) = d := by rw [← e]
          show (a, d.2) ∈ ks
          rw [this]
          exact hk d List.mem_cons_self) (fun x hx ex => by
        rw [ek, List.mem_append, List.mem_singleton]
        rintro (q | q)
        · exact h3 x (List.mem_cons_of_mem _ hx) ex q
        · have q2 : x.2 = d.2 := (Prod.mk.inj q).2
          have : x = d := Prod.ext (ex.trans e.symm) q2
          exact hd (this ▸ hx))
      obtain ⟨i1, i2, i3, i4, i5, i6, i7⟩ := ih
      have a0 : Aside w (WS.partStep a b w d) := by rw [es]; exact ⟨rfl, rfl, rfl, rfl, rfl, rfl⟩
      refine ⟨a0.trans i1, i2, ?_, ?_, ?_, i6, ?_⟩
      · rw [i3, es]
      · rw [i4, es]
      · rw [i5, el, es]
        show w.copied + 1 - ((w.falls.length + 1 : Nat) : Int) = _
        omega
      · rw [List.length_cons]; omega
    · have es : WS.partStep a b w d = w := by unfold WS.partStep; rw [if_neg e]
      rw [es]
      obtain ⟨i1, i2, i3, i4, i5, i6, i7⟩ := part_fold hb L w hL (fun x hx => hk x (List.mem_cons_of_mem _ hx)) h1 hk2 h2 (fun x hx => h3 x (List.mem_cons_of_mem _ hx))
      exact ⟨i1, i2, i3, i4, i5, i6, by rw [List.length_cons]; omega⟩

/-! joining -/
theorem lay_facts (w : WS) (d : Due) (f : List Int) : Aside w (w.lay d f) ∧ (w.lay d f).copied = w.copied ∧ (w.lay d f).struck = w.struck ∧
    akeys (w.lay d f).falls = (if d ∈ akeys w.falls then akeys w.falls else akeys w.falls ++ [d]) ∧ ((w.lay d f).falls.length : Int) + (w.lay d f).merged = (w.falls.length : Int) + w.merged + 1 := by
  unfold WS.lay
  cases h : aget w.falls d with
  | none =>
    have hn : d ∉ akeys w.falls := fun q => by
      have := (aget_some_iff w.falls d).mpr q
      rw [h] at this; cases this
    refine ⟨⟨rfl, rfl, rfl, rfl, rfl, rfl⟩, rfl, rfl, ?_, ?_⟩
    · rw [if_neg hn]; exact akeys_aput_new _ hn
    · show ((aput w.falls d f).length : Int) + w.merged = _
      rw [length_aput_new _ hn]; omega
  | some t =>
    have hy : d ∈ akeys w.falls := (aget_some_iff w.falls d).mp (by rw [h]; rfl)
    dsimp only
    split
    · refine ⟨⟨rfl, rfl, rfl, rfl, rfl, rfl⟩, rfl, rfl, by first | rfl | rw [if_pos hy], ?_⟩
      show (w.falls.length : Int) + (w.merged + 1) = _
      omega
    · refine ⟨⟨rfl, rfl, rfl, rfl, rfl, rfl⟩, rfl, rfl, ?_, ?_⟩
      · first | exact akeys_aput_has _ hy | (rw [if_pos hy]; exact akeys_aput_has _ hy)
      · show ((aput w.falls d f).length : Int) + (w.merged + 1) = _
        rw [length_aput_has _ hy]; omega

theorem sub_ne {name gone x : Str} (h : name ≠ gone) : WS.sub name gone x ≠ gone := by
  unfold WS.sub; split
  · exact h
  · rename_i e; exact e
theorem sub_cases (name gone x : Str) : WS.sub name gone x = name ∨ WS.sub name gone x = x := by
  unfold WS.sub; split
  · exact .inl rfl
  · exact .inr rfl

theorem join_fold {a b : Str} (hab : a ≠ b) {C : Str → Prop} (ha : C a) {M : Pg → Prop} : ∀ (L : List Due) (w : WS), L.Nodup → (∀ d ∈ L, d ∈ akeys w.falls) → (akeys w.falls).Nodup →
    (∀ d ∈ akeys w.falls, (d ∈ L ∨ (d.1 ≠ b ∧ d.2.1 ≠ b)) ∧ C d.1 ∧ C d.2.1 ∧ d.1 ≠ d.2.1 ∧ M d.2.2) →
    Aside w (L.foldl (WS.joinStep a b) w) ∧ (akeys (L.foldl (WS.joinStep a b) w).falls).Nodup ∧ (L.foldl (WS.joinStep a b) w).copied = w.copied ∧
    ((L.foldl (WS.joinStep a b) w).falls.length : Int) + (L.foldl (WS.joinStep a b) w).struck + (L.foldl (WS.joinStep a b) w).merged = (w.falls.length : Int) + w.struck + w.merged ∧
    (L.foldl (WS.joinStep a b) w).falls.length ≤ w.falls.length ∧
    (∀ d ∈ akeys (L.foldl (WS.joinStep a b) w).falls, (d.1 ≠ b ∧ d.2.1 ≠ b) ∧ C d.1 ∧ C d.2.1 ∧ d.1 ≠ d.2.1 ∧ M d.2.2)
  | [], w, _, _, h1, h2 => ⟨Aside.refl w, h1, rfl, rfl, Nat.le_refl _, fun d hd => by
      obtain ⟨q, r⟩ := h2 d hd
      rcases q with q | q
      · cases q
      · exact ⟨q, r⟩⟩
  | d :: L, w, hn, hk, h1, h2 => by
    obtain ⟨hd, hL⟩ := List.nodup_cons.mp hn
    rw [List.foldl_cons]
    have hdk := hk d List.mem_cons_self
    obtain ⟨_, c1, c2, c3, c4⟩ := h2 d hdk
    -- what the state behind this step must be like
    suffices H : Aside w (WS.joinStep a b w d) ∧ (akeys (WS.joinStep a b w d).falls).Nodup ∧ (WS.joinStep a b w d).copied = w.copied ∧
        ((WS.joinStep a b w d).falls.length : Int) + (WS.joinStep a b w d).struck + (WS.joinStep a b w d).merged = (w.falls.length : Int) + w.struck + w.merged ∧
        (WS.joinStep a b w d).falls.length ≤ w.falls.length ∧ (∀ x ∈ akeys w.falls, x ≠ d → x ∈ akeys (WS.joinStep a b w d).falls) ∧
        (∀ x ∈ akeys (WS.joinStep a b w d).falls, (x ∈ akeys w.falls ∧ x ≠ d) ∨ ((x.1 ≠ b ∧ x.2.1 ≠ b) ∧ C x.1 ∧ C x.2.1 ∧ x.1 ≠ x.2.1 ∧ M x.2.2)) by
      obtain ⟨g1, g2, g3, g4, g5, g6, g7⟩ := H
      obtain ⟨i1, i2, i3, i4, i5, i6⟩ := join_fold hab ha (M := M) L (WS.joinStep a b w d) hL (fun x hx => g6 x (hk x (List.mem_cons_of_mem _ hx)) fun e => hd (e ▸ hx)) g2 (fun x hx => by
        rcases g7 x hx with ⟨q, ne⟩ | ⟨q, r⟩
        · obtain ⟨s, r⟩ := h2 x q
          refine ⟨?_, r⟩
          rcases s with s | s
          · rcases List.mem_cons.mp s with s | s
            · exact absurd s ne
            · exact .inl s
          · exact .inr s
        · exact ⟨.inr q, r⟩)
      exact ⟨g1.trans i1, i2, i3.trans g3, i4.trans g4, Nat.le_trans i5 g5, i6⟩
    unfold WS.joinStep
    by_cases e : b = d.1 ∨ b = d.2.1
    · rw [if_pos e]
      have hlen := length_adel h1 hdk
      by_cases e2 : WS.sub a b d.1 = WS.sub a b d.2.1
      · rw [if_pos e2]
        refine ⟨⟨rfl, rfl, rfl, rfl, rfl, rfl⟩, nodup_adel h1, rfl, ?_, ?_, fun x hx ne => mem_akeys_adel.mpr ⟨hx, ne⟩, fun x hx => .inl (mem_akeys_adel.mp hx)⟩
        · show ((adel w.falls d).length : Int) + (w.struck + 1) + w.merged = _
          omega
        · show (adel w.falls d).length ≤ _
          omega
      · rw [if_neg e2]
        obtain ⟨l1, l2, l3, l4, l5⟩ := lay_facts ({ w with falls := adel w.falls d } : WS) (WS.sub a b d.1, WS.sub a b d.2.1, d.2.2) (w.fallsOf d)
        generalize ({ w with falls := adel w.falls d } : WS).lay (WS.sub a b d.1, WS.sub a b d.2.1, d.2.2) (w.fallsOf d) = w' at l1 l2 l3 l4 l5 ⊢
        have l4' : akeys w'.falls = if (WS.sub a b d.1, WS.sub a b d.2.1, d.2.2) ∈ akeys (adel w.falls d) then akeys (adel w.falls d) else akeys (adel w.falls d) ++ [(WS.sub a b d.1, WS.sub a b d.2.1, d.2.2)] := l4
        have l5' : (w'.falls.length : Int) + w'.merged = ((adel w.falls d).length : Int) + w.merged + 1 := l5
        have l3' : w'.struck = w.struck := l3
        have hl6 : w'.falls.length ≤ w.falls.length := by
          have := congrArg List.length l4'
          unfold akeys at this
          split at this
          · simp only [List.length_map] at this; omega
          · simp only [List.length_append, List.length_map, List.length_cons, List.length_nil] at this; omega
        refine ⟨⟨l1.homes, l1.mourned, l1.sorts, l1.marks, l1.answers, l1.made⟩, ?_, l2, ?_, hl6, fun x hx ne => ?_, fun x hx => ?_⟩
        · rw [l4']
          split
          · exact nodup_adel h1
          · rename_i q
            rw [List.nodup_append]
            exact ⟨nodup_adel h1, by simp, fun y hy z hz => by rw [List.mem_singleton] at hz; subst hz; intro e; subst e; exact q hy⟩
        · rw [l3']; omega
        · rw [l4']
          split
          · exact mem_akeys_adel.mpr ⟨hx, ne⟩
          · exact List.mem_append_left _ (mem_akeys_adel.mpr ⟨hx, ne⟩)
        · have hx' : x ∈ akeys (adel w.falls d) ∨ x = (WS.sub a b d.1, WS.sub a b d.2.1, d.2.2) := by
            rw [l4'] at hx
            split at hx
            · exact .inl hx
            · rcases List.mem_append.mp hx with hx | hx
              · exact .inl hx
              · exact .inr (List.mem_singleton.mp hx)
          rcases hx' with hx' | hx'
          · exact .inl (mem_akeys_adel.mp hx')
          · subst hx'
            refine .inr ⟨⟨sub_ne hab, sub_ne hab⟩, ?_, ?_, e2, c4⟩
            · show C (WS.sub a b d.1)
              rcases sub_cases a b d.1 with q | q
              · rw [q]; exact ha
              · rw [q]; exact c1
            · show C (WS.sub a b d.2.1)
              rcases sub_cases a b d.2.1 with q | q
              · rw [q]; exact ha
              · rw [q]; exact c2
    · rw [if_neg e]
      refine ⟨Aside.refl w, h1, rfl, rfl, Nat.le_refl _, fun x hx _ => hx, fun x hx => ?_⟩
      by_cases ed : x = d
      · subst ed
        exact .inr ⟨⟨fun q => e (.inl q.symm), fun q => e (.inr q.symm)⟩, c1, c2, c3, c4⟩
      · exact .inl ⟨hx, ed⟩

/-! paying -/
theorem adel_fold {κ β : Type} [DecidableEq κ] : ∀ (L : List κ) (m : List (κ × β)), L.Nodup → (∀ k ∈ L, k ∈ akeys m) → (akeys m).Nodup →
    (akeys (L.foldl adel m)).Nodup ∧ (∀ j, j ∈ akeys (L.foldl adel m) ↔ j ∈ akeys m ∧ j ∉ L) ∧ (L.foldl adel m).length + L.length = m.length
  | [], m, _, _, h => ⟨h, fun j => ⟨fun q => ⟨q, by simp⟩, fun q => q.1⟩, rfl⟩
  | k :: L, m, hn, hk, h => by
    obtain ⟨h1, h2⟩ := List.nodup_cons.mp hn
    obtain ⟨i1, i2, i3⟩ := adel_fold L (adel m k) h2 (fun j hj => mem_akeys_adel.mpr ⟨hk j (List.mem_cons_of_mem _ hj), fun e => h1 (e ▸ hj)⟩) (nodup_adel h)
    rw [List.foldl_cons]
    refine ⟨i1, fun j => ?_, ?_⟩
    · rw [i2, mem_akeys_adel, List.mem_cons]
      constructor
      · rintro ⟨⟨a, b⟩, c⟩; exact ⟨a, fun q => q.elim b c⟩
      · rintro ⟨a, b⟩; exact ⟨⟨a, fun q => b (.inl q)⟩, fun q => b (.inr q)⟩
    · have := length_adel h (hk k List.mem_cons_self)
      rw [List.length_cons]; omega

/-! what falls -/
theorem fall_fold (t : Int × Int) (day : Int) : ∀ (L : List Due) (w : WS), (∀ d ∈ L, d ∈ akeys w.falls) → Aside w (L.foldl (WS.fallStep t day) w) ∧ akeys (L.foldl (WS.fallStep t day) w).falls = akeys w.falls ∧
    (L.foldl (WS.fallStep t day) w).copied = w.copied ∧ (L.foldl (WS.fallStep t day) w).struck = w.struck ∧ (L.foldl (WS.fallStep t day) w).merged = w.merged
  | [], w, _ => ⟨Aside.refl w, rfl, rfl, rfl, rfl⟩
  | d :: L, w, hk => by
    rw [List.foldl_cons]
    have s1 : Aside w (WS.fallStep t day w d) ∧ akeys (WS.fallStep t day w d).falls = akeys w.falls ∧ (WS.fallStep t day w d).copied = w.copied ∧ (WS.fallStep t day w d).struck = w.struck ∧ (WS.fallStep t day w d).merged = w.merged := by
      unfold WS.fallStep
      split
      · exact ⟨⟨rfl, rfl, rfl, rfl, rfl, rfl⟩, akeys_aput_has _ (hk d List.mem_cons_self), rfl, rfl, rfl⟩
      · exact ⟨Aside.refl w, rfl, rfl, rfl, rfl⟩
    obtain ⟨a1, a2, a3, a4, a5⟩ := s1
    obtain ⟨i1, i2, i3, i4, i5⟩ := fall_fold t day L (WS.fallStep t day w d) (fun x hx => by rw [a2]; exact hk x (List.mem_cons_of_mem _ hx))
    exact ⟨a1.trans i1, i2.trans a2, i3.trans a3, i4.trans a4, i5.trans a5⟩
theorem fall_facts (t : Int × Int) (day : Int) (w : WS) : Aside w (w.fall t day) ∧ akeys (w.fall t day).falls = akeys w.falls ∧ (w.fall t day).copied = w.copied ∧ (w.fall t day).struck = w.struck ∧ (w.fall t day).merged = w.merged :=
  fall_fold t day (akeys w.falls) w fun _ h => h
theorem keys_len {κ β : Type} (m : List (κ × β)) : (akeys m).length = m.length := by unfold akeys; exact List.length_map _

theorem MI.fall {pre : List Pg} {s : HS} {w : WS} (m : MI pre s w) (t : Int × Int) (day : Int) : MI pre s (w.fall t day) := by
  obtain ⟨a, k, c1, c2, c3⟩ := fall_facts t day w
  have hl : (w.fall t day).falls.length = w.falls.length := by rw [← keys_len, k, keys_len]
  exact ⟨by rw [k]; exact m.nodup, by rw [k]; exact m.own, by rw [k, a.marks]; exact m.page, by rw [a.marks, a.sorts]; exact m.sorts, by rw [a.homes]; exact m.homes, m.sub,
    by rw [a.made, c1, hl, a.answers, c2, c3]; exact m.cons, by rw [a.made, a.marks]; exact m.made, by rw [a.marks]; exact m.marks, by rw [a.answers, a.marks]; exact m.answers,
    by rw [a.answers, a.marks]; exact m.ans, by rw [a.marks]; exact m.goes⟩
end CB
/-! CBMath2 -/
set_option Elab.async false
set_option autoImplicit false
set_option linter.all false
namespace CB
open PySem

theorem countP_snoc (l : List (Pg × Mk)) (x : Pg × Mk) : (l ++ [x]).countP (fun x => decide (x.2 = Mk.due)) = l.countP (fun x => decide (x.2 = Mk.due)) + (if x.2 = Mk.due then 1 else 0) := by
  rw [List.countP_append, List.countP_cons, List.countP_nil]
  by_cases h : x.2 = Mk.due <;> simp [h]

/-- a page that makes no due and answers none -/
theorem MI.other {pre : List Pg} {s s' : HS} {w w' : WS} {p : Pg} {k : Mk} (m : MI pre s w) (hk : k = .idle ∨ (k = .done ∧ p.isGo = false))
    (e1 : w'.sorts = w.sorts) (e2 : w'.marks = w.marks) (e3 : w'.answers = w.answers) (e4 : w'.made = w.made)
    (h1 : (akeys w'.falls).Nodup) (h2 : ∀ d ∈ akeys w'.falls, (d.1 ∈ s'.stands ∧ d.2.1 ∈ s'.stands ∧ d.1 ≠ d.2.1) ∧ (d.2.2, Mk.due) ∈ w.marks)
    (h3 : ∀ n ∈ s'.stands, n ∈ akeys w'.homes ∧ n ∈ s'.came)
    (h4 : w'.copied - (w'.falls.length : Int) - w'.struck - w'.merged = w.copied - (w.falls.length : Int) - w.struck - w.merged) :
    MI (pre ++ [p]) s' { w' with marks := w.marks ++ [(p, k)] } := by
  have kd : k ≠ .due := by rcases hk with h | ⟨h, _⟩ <;> subst h <;> exact fun z => by cases z
  have ka : ansOf (p, k) = none := by rcases hk with h | ⟨h, _⟩ <;> subst h <;> rfl
  have mem : ∀ q, (q, Mk.due) ∈ w.marks ++ [(p, k)] ↔ (q, Mk.due) ∈ w.marks := fun q => by
    rw [List.mem_append, List.mem_singleton]
    constructor
    · rintro (h | h)
      · exact h
      · exact absurd (Prod.mk.inj h).2.symm kd
    · exact .inl
  refine ⟨h1, fun d hd => (h2 d hd).1, fun d hd => (mem _).mpr (h2 d hd).2, fun q hq => ?_, fun n hn => (h3 n hn).1, fun n hn => (h3 n hn).2, ?_, ?_, ?_, ?_, ?_, ?_⟩
  · show q ∈ akeys w'.sorts
    rw [e1]; exact m.sorts q ((mem q).mp hq)
  · show w'.made + w'.copied = (w'.falls.length : Int) + (lenSum w'.answers : Int) + w'.struck + w'.merged
    have := m.cons
    rw [e3, e4]; omega
  · show w'.made = _
    rw [e4, m.made, countP_snoc, if_neg kd]; rfl
  · show (w.marks ++ [(p, k)]).map (·.1) = _
    rw [List.map_append, m.marks]; rfl
  · show (w'.answers.map _) = (w.marks ++ [(p, k)]).filterMap ansOf
    rw [e3, m.answers, List.filterMap_append]
    simp [ka]
  · intro x hx d hd
    have hx' : x ∈ w.answers := by rw [← e3]; exact hx
    obtain ⟨q1, q2⟩ := m.ans x hx' d hd
    exact ⟨q1, (mem _).mpr q2⟩
  · intro x hx
    rcases List.mem_append.mp hx with hx | hx
    · exact m.goes x hx
    · rw [List.mem_singleton] at hx
      subst hx
      rcases hk with h | ⟨h, h'⟩
      · subst h; trivial
      · subst h; exact h'

theorem MI.go {pre : List Pg} {s : HS} {w : WS} {p : Pg} {a b : Str} (m : MI pre s w) (hp : p ∉ pre) (hg : p.isGo = true) (he : p.ends = (a, b)) (ha : a ∈ s.stands) (hb : b ∈ s.stands) (hab : a ≠ b) :
    MI (pre ++ [p]) s { (w.go p a b).1 with marks := w.marks ++ [(p, (w.go p a b).2)] } := by
  have old : ∀ k, (p, k) ∉ w.marks := fun k h => hp (by rw [← m.marks]; exact List.mem_map.mpr ⟨_, h, rfl⟩)
  unfold WS.go
  split
  · have hnew : (b, a, p) ∉ akeys w.falls := fun h => old _ (m.page _ h)
    have mem : ∀ q, (q, Mk.due) ∈ w.marks ++ [(p, Mk.due)] ↔ (q, Mk.due) ∈ w.marks ∨ q = p := fun q => by
      rw [List.mem_append, List.mem_singleton]
      constructor
      · rintro (h | h)
        · exact .inl h
        · exact .inr (Prod.mk.inj h).1
      · rintro (h | h)
        · exact .inl h
        · exact .inr (by rw [h])
    have ek : ∀ d, d ∈ akeys (aput w.falls (b, a, p) ([] : List Int)) ↔ d = (b, a, p) ∨ d ∈ akeys w.falls := fun d => mem_akeys_aput
    refine ⟨nodup_aput m.nodup, fun d hd => ?_, fun d hd => ?_, fun q hq => ?_, m.homes, m.sub, ?_, ?_, ?_, ?_, ?_, ?_⟩
    · rcases (ek d).mp hd with h | h
      · subst h; exact ⟨hb, ha, fun e => hab e.symm⟩
      · exact m.own d h
    · refine (mem _).mpr ?_
      rcases (ek d).mp hd with h | h
      · subst h; exact .inr rfl
      · exact .inl (m.page d h)
    · show q ∈ akeys (aput w.sorts p _)
      rcases (mem q).mp hq with h | h
      · exact mem_akeys_aput.mpr (.inr (m.sorts q h))
      · exact mem_akeys_aput.mpr (.inl h)
    · show w.made + 1 + w.copied = ((aput w.falls (b, a, p) ([] : List Int)).length : Int) + (lenSum w.answers : Int) + w.struck + w.merged
      have := m.cons
      rw [length_aput_new _ hnew]; omega
    · show w.made + 1 = _
      rw [m.made, countP_snoc, if_pos rfl]; rfl
    · show (w.marks ++ [(p, Mk.due)]).map (·.1) = _
      rw [List.map_append, m.marks]; rfl
    · show (w.answers.map _) = (w.marks ++ [(p, Mk.due)]).filterMap ansOf
      rw [m.answers, List.filterMap_append]
      simp [ansOf]
    · intro x hx d hd
      obtain ⟨q1, q2⟩ := m.ans x hx d hd
      exact ⟨q1, (mem _).mpr (.inl q2)⟩
    · intro x hx
      rcases List.mem_append.mp hx with hx | hx
      · exact m.goes x hx
      · rw [List.mem_singleton] at hx
        subst hx
        exact hg
  · rename_i hne
    generalize hpd : w.paidOf (w.goSort p) a b = paid at hne ⊢
    have sub : ∀ d ∈ paid, d ∈ akeys w.falls := fun d hd => by
      rw [← hpd] at hd; exact (List.mem_filter.mp hd).1
    have hpn : paid.Nodup := by rw [← hpd]; exact m.nodup.filter _
    have hpe : ∀ d ∈ paid, (d.1, d.2.1) = (a, b) := fun d hd => by
      rw [← hpd] at hd
      have q := (List.mem_filter.mp hd).2
      unfold WS.paysB at q
      simp only [Bool.and_eq_true, decide_eq_true_eq] at q
      rw [q.1.1, q.1.2]
    obtain ⟨f1, f2, f3⟩ := adel_fold paid w.falls hpn sub m.nodup
    have mem : ∀ q, (q, Mk.due) ∈ w.marks ++ [(p, Mk.ans paid.length)] ↔ (q, Mk.due) ∈ w.marks := fun q => by
      rw [List.mem_append, List.mem_singleton]
      constructor
      · rintro (h | h)
        · exact h
        · exact absurd (Prod.mk.inj h).2 (fun z => by cases z)
      · exact .inl
    refine ⟨f1, fun d hd => m.own d ((f2 d).mp hd).1, fun d hd => (mem _).mpr (m.page d ((f2 d).mp hd).1), fun q hq => m.sorts q ((mem q).mp hq), m.homes, m.sub, ?_, ?_, ?_, ?_, ?_, ?_⟩
    · show w.made + w.copied = ((paid.foldl adel w.falls).length : Int) + (lenSum (w.answers ++ [(p, paid)]) : Int) + w.struck + w.merged
      have := m.cons
      have e : lenSum (w.answers ++ [(p, paid)]) = lenSum w.answers + paid.length := by unfold lenSum; simp
      rw [e]; omega
    · show w.made = _
      rw [m.made, countP_snoc, if_neg (fun z => by cases z)]; rfl
    · show (w.marks ++ [(p, Mk.ans paid.length)]).map (·.1) = _
      rw [List.map_append, m.marks]; rfl
    · show ((w.answers ++ [(p, paid)]).map _) = (w.marks ++ [(p, Mk.ans paid.length)]).filterMap ansOf
      rw [List.map_append, m.answers, List.filterMap_append]
      simp [ansOf]
    · intro x hx d hd
      rcases List.mem_append.mp hx with hx | hx
      · obtain ⟨q1, q2⟩ := m.ans x hx d hd
        exact ⟨q1, (mem _).mpr q2⟩
      · rw [List.mem_singleton] at hx
        subst hx
        refine ⟨?_, (mem _).mpr (m.page d (sub d hd))⟩
        show _ = p.ends
        rw [he]; exact hpe d hd
    · intro x hx
      rcases List.mem_append.mp hx with hx | hx
      · exact m.goes x hx
      · rw [List.mem_singleton] at hx
        subst hx
        refine ⟨hg, ?_⟩
        cases paid with
        | nil => exact absurd rfl hne
        | cons _ _ => exact Nat.succ_pos _

/-- the names of a page are unlike -/
def Pg.unlike : Pg → Prop
  | .part _ a b _ | .join _ a b | .ahead _ a b | .card _ a b | .visit _ a b => a ≠ b
  | _ => True

theorem MI.mark {pre : List Pg} {s : HS} {w : WS} {lost : List Pg} {p : Pg} (m : MI pre s w) (hp : p ∉ pre) (hl : p ∈ lost ↔ s.can p = false) (hu : p.unlike) : MI (pre ++ [p]) (s.meet p) (w.mark lost p) := by
  unfold WS.mark WS.put
  by_cases h : p ∈ lost
  · rw [if_pos h]
    have hc : s.can p = false := hl.mp h
    have hm : (s.meet p).stands = s.stands ∧ (s.meet p).came = s.came := by unfold HS.meet; rw [if_neg (by rw [hc]; exact Bool.false_ne_true)]; exact ⟨rfl, rfl⟩
    refine m.other (s' := s.meet p) (.inl rfl) rfl rfl rfl rfl m.nodup (fun d hd => ⟨?_, m.page d hd⟩) (fun n hn => ?_) rfl
    · rw [hm.1]; exact m.own d hd
    · rw [hm.1] at hn; rw [hm.2]; exact ⟨m.homes n hn, m.sub n hn⟩
  · rw [if_neg h]
    have hc : s.can p = true := by
      cases q : s.can p with
      | true => rfl
      | false => exact absurd (hl.mpr q) h
    have hm : s.meet p = s.act p := by unfold HS.meet; rw [if_pos hc]
    rw [hm]
    cases p with
    | card d a b =>
      have hc' : (decide (a ∈ s.stands) && decide (b ∈ s.stands)) = true := hc
      simp only [Bool.and_eq_true, decide_eq_true_eq] at hc'
      exact m.go hp rfl rfl hc'.1 hc'.2 hu
    | visit d a b =>
      have hc' : (decide (a ∈ s.stands) && decide (b ∈ s.stands)) = true := hc
      simp only [Bool.and_eq_true, decide_eq_true_eq] at hc'
      exact m.go hp rfl rfl hc'.1 hc'.2 hu
    | house d a hh =>
      have hc' : (!decide (a ∈ s.came)) = true := hc
      refine m.other (s' := s.come a) (.inr ⟨rfl, rfl⟩) rfl rfl rfl rfl m.nodup (fun x hx => ⟨?_, m.page x hx⟩) (fun n hn => ?_) rfl
      · obtain ⟨o1, o2, o3⟩ := m.own x hx
        exact ⟨List.mem_append_left _ o1, List.mem_append_left _ o2, o3⟩
      · rcases List.mem_append.mp hn with hn | hn
        · exact ⟨mem_akeys_aput.mpr (.inr (m.homes n hn)), List.mem_append_left _ (m.sub n hn)⟩
        · exact ⟨mem_akeys_aput.mpr (.inl (List.mem_singleton.mp hn)), List.mem_append_right _ hn⟩
    | home d a hh =>
      refine m.other (s' := s) (.inr ⟨rfl, rfl⟩) rfl rfl rfl rfl m.nodup (fun x hx => ⟨m.own x hx, m.page x hx⟩) (fun n hn => ?_) rfl
      exact ⟨mem_akeys_aput.mpr (.inr (m.homes n hn)), m.sub n hn⟩
    | mourn d a k =>
      exact m.other (s' := s) (.inr ⟨rfl, rfl⟩) rfl rfl rfl rfl m.nodup (fun x hx => ⟨m.own x hx, m.page x hx⟩) (fun n hn => ⟨m.homes n hn, m.sub n hn⟩) rfl
    | ahead d a b =>
      exact m.other (s' := s) (.inr ⟨rfl, rfl⟩) rfl rfl rfl rfl m.nodup (fun x hx => ⟨m.own x hx, m.page x hx⟩) (fun n hn => ⟨m.homes n hn, m.sub n hn⟩) rfl
    | part d a b hh =>
      have hc' : (decide (a ∈ s.stands) && !decide (b ∈ s.came)) = true := hc
      simp only [Bool.and_eq_true, decide_eq_true_eq, Bool.not_eq_true', decide_eq_false_iff_not] at hc'
      have nb : ∀ x ∈ akeys w.falls, x.1 ≠ b := fun x hx e => hc'.2 (e ▸ m.sub _ (m.own x hx).1)
      obtain ⟨i1, i2, i3, i4, i5, i6, _⟩ := part_fold (a := a) (b := b) nb (akeys w.falls) w m.nodup (fun _ h => h) m.nodup (fun _ h => h) (fun _ h => .inl h) (fun x hx ex q => nb _ q rfl)
      refine m.other (s' := s.come b) (w' := { w.part a b with homes := aput w.homes b hh }) (.inr ⟨rfl, rfl⟩) i1.sorts i1.marks i1.answers i1.made i2 (fun x hx => ?_) (fun n hn => ?_) ?_
      · rcases i6 x hx with hx | ⟨e, hx⟩
        · obtain ⟨o1, o2, o3⟩ := m.own x hx
          exact ⟨⟨List.mem_append_left _ o1, List.mem_append_left _ o2, o3⟩, m.page x hx⟩
        · obtain ⟨o1, o2, o3⟩ := m.own _ hx
          refine ⟨⟨?_, List.mem_append_left _ o2, fun q => ?_⟩, m.page (a, x.2) hx⟩
          · rw [e]; exact List.mem_append_right _ (List.mem_singleton.mpr rfl)
          · exact hc'.2 (m.sub _ (by rw [← e, q]; exact o2))
      · rcases List.mem_append.mp hn with hn | hn
        · exact ⟨mem_akeys_aput.mpr (.inr (m.homes n hn)), List.mem_append_left _ (m.sub n hn)⟩
        · exact ⟨mem_akeys_aput.mpr (.inl (List.mem_singleton.mp hn)), List.mem_append_right _ hn⟩
      · show (w.part a b).copied - ((w.part a b).falls.length : Int) - (w.part a b).struck - (w.part a b).merged = _
        unfold WS.part
        rw [i3, i4]; omega
    | join d a b =>
      have hc' : (decide (a ∈ s.stands) && decide (b ∈ s.stands)) = true := hc
      simp only [Bool.and_eq_true, decide_eq_true_eq] at hc'
      obtain ⟨i1, i2, i3, i4, _, i6⟩ := join_fold (a := a) (b := b) hu (C := fun n => n ∈ s.stands) hc'.1 (M := fun q => (q, Mk.due) ∈ w.marks) (akeys w.falls) w m.nodup (fun _ h => h) m.nodup (fun x hx => by
        obtain ⟨o1, o2, o3⟩ := m.own x hx
        exact ⟨.inl hx, o1, o2, o3, m.page x hx⟩)
      refine m.other (s' := s.act (.join d a b)) (w' := w.join a b) (.inr ⟨rfl, rfl⟩) i1.sorts i1.marks i1.answers i1.made i2 (fun x hx => ?_) (fun n hn => ?_) ?_
      · obtain ⟨⟨n1, n2⟩, o1, o2, o3, o4⟩ := i6 x hx
        exact ⟨⟨List.mem_filter.mpr ⟨o1, decide_eq_true n1⟩, List.mem_filter.mpr ⟨o2, decide_eq_true n2⟩, o3⟩, o4⟩
      · have hn' := (List.mem_filter.mp hn).1
        refine ⟨?_, m.sub n hn'⟩
        show n ∈ akeys (w.join a b).homes
        unfold WS.join
        rw [i1.homes]; exact m.homes n hn'
      · show (w.join a b).copied - ((w.join a b).falls.length : Int) - (w.join a b).struck - (w.join a b).merged = _
        unfold WS.join
        rw [i3]; omega

/-! days -/
theorem eat_facts {pages lost : List Pg} (hn : pages.Nodup) (hl : lost = idleOf pages) (hu : ∀ p ∈ pages, p.unlike) (day : Int) : ∀ (rest pre : List Pg) (w : WS), pages = pre ++ rest → MI pre (pre.foldl HS.meet HS.start) w →
    ∃ pre', pages = pre' ++ (WS.eat lost day rest w).2 ∧ MI pre' (pre'.foldl HS.meet HS.start) (WS.eat lost day rest w).1 ∧ (∀ q r, (WS.eat lost day rest w).2 = q :: r → q.day ≠ day) ∧ (∃ x, rest = x ++ (WS.eat lost day rest w).2)
  | [], pre, w, e, m => ⟨pre, e, m, fun q r h => (by cases h), [], rfl⟩
  | p :: r, pre, w, e, m => by
    unfold WS.eat
    by_cases h : p.day = day
    · rw [if_pos h]
      have hp : p ∉ pre := by
        rw [e] at hn
        exact fun q => (List.nodup_append.mp hn).2.2 p q p List.mem_cons_self rfl
      have hl2 : p ∈ lost ↔ (pre.foldl HS.meet HS.start).can p = false := by
        rw [hl, e]; exact lost_iff (by rw [← e]; exact hn)
      have m2 := m.mark hp hl2 (hu p (by rw [e]; exact List.mem_append_right _ List.mem_cons_self))
      have ef : (pre ++ [p]).foldl HS.meet HS.start = (pre.foldl HS.meet HS.start).meet p := by rw [List.foldl_append]; rfl
      obtain ⟨pre', i1, i2, i3, x, i4⟩ := eat_facts hn hl hu day r (pre ++ [p]) (w.mark lost p) (by rw [e, List.append_assoc]; rfl) (by rw [ef]; exact m2)
      exact ⟨pre', i1, i2, i3, p :: x, by rw [List.cons_append, ← i4]⟩
    · rw [if_neg h]
      exact ⟨pre, e, m, fun q r' hq => by cases hq; exact h, [], rfl⟩

def rising (ps : List Pg) : Prop := ps.Pairwise fun p q => p.day ≤ q.day

theorem run_facts {pages lost : List Pg} (hn : pages.Nodup) (hs : rising pages) (hl : lost = idleOf pages) (hu : ∀ p ∈ pages, p.unlike) (t : Int × Int) : ∀ (n : Nat) (first : Int) (w : WS) (rest pre : List Pg), pages = pre ++ rest →
    MI pre (pre.foldl HS.meet HS.start) w → (∀ p ∈ rest, first ≤ p.day ∧ p.day < first + n) → ∃ s, s = WS.run t lost first n (w, rest) ∧ s.2 = [] ∧ MI pages (pages.foldl HS.meet HS.start) s.1
  | 0, first, w, rest, pre, e, m, hr => by
    refine ⟨_, rfl, ?_⟩
    have : rest = [] := by
      cases rest with
      | nil => rfl
      | cons p r => have := hr p List.mem_cons_self; omega
    subst this
    rw [List.append_nil] at e
    subst e
    exact ⟨rfl, m⟩
  | n + 1, first, w, rest, pre, e, m, hr => by
    obtain ⟨pre', i1, i2, i3, x, i4⟩ := eat_facts hn hl hu first rest pre w e m
    have i5 : ∀ p ∈ (WS.eat lost first rest w).2, first + 1 ≤ p.day ∧ p.day < first + 1 + n := by
      have hle : ∀ p ∈ (WS.eat lost first rest w).2, first ≤ p.day ∧ p.day < first + (n + 1 : Nat) := fun p hp => hr p (by rw [i4]; exact List.mem_append_right _ hp)
      cases q : (WS.eat lost first rest w).2 with
      | nil => exact fun p hp => (by cases hp)
      | cons p0 r0 =>
        have h0 := i3 p0 r0 q
        rw [q] at hle i1
        have h1 := hle p0 List.mem_cons_self
        have hs' : rising (p0 :: r0) := by
          unfold rising at hs ⊢
          rw [i1] at hs
          exact (List.pairwise_append.mp hs).2.1
        intro p hp
        have h2 := hle p hp
        have h3 : p0.day ≤ p.day := by
          rcases List.mem_cons.mp hp with hp | hp
          · rw [hp]; exact Int.le_refl _
          · exact (List.pairwise_cons.mp hs').1 p hp
        omega
    have := run_facts hn hs hl hu t n (first + 1) ((WS.eat lost first rest w).1.fall t first) (WS.eat lost first rest w).2 pre' i1 (i2.fall t first) i5
    exact this

theorem goTo_facts {book : List Pg} (hn : book.Nodup) (hs : rising book) (hu : ∀ p ∈ book, p.unlike) (t : Int × Int) (last : Int) :
    ∃ s : HS, s = (book.filter fun p => decide (p.day ≤ last)).foldl HS.meet HS.start ∧ MI (book.filter fun p => decide (p.day ≤ last)) s (WS.goTo t book last) := by
  refine ⟨_, rfl, ?_⟩
  unfold WS.goTo
  cases q : book.filter fun p => decide (p.day ≤ last) with
  | nil => exact MI.start
  | cons p r =>
    have hn' : (p :: r).Nodup := by rw [← q]; exact hn.filter _
    have hs' : rising (p :: r) := by
      unfold rising at hs ⊢
      rw [← q]; exact hs.filter _
    have hmem : ∀ x ∈ p :: r, x ∈ book ∧ x.day ≤ last := fun x hx => by
      rw [← q] at hx
      obtain ⟨a, b⟩ := List.mem_filter.mp hx
      exact ⟨a, of_decide_eq_true b⟩
    obtain ⟨s, e, _, m⟩ := run_facts hn' hs' rfl (fun x hx => hu x (hmem x hx).1) t (last + 1 - p.day).toNat p.day WS.start (p :: r) [] rfl MI.start (fun x hx => by
      have h1 := (hmem x hx).2
      have h2 : p.day ≤ x.day := by
        rcases List.mem_cons.mp hx with hx | hx
        · rw [hx]; exact Int.le_refl _
        · exact (List.pairwise_cons.mp hs').1 x hx
      omega)
    subst e
    exact m
end CB
/-! CBF1 -/
set_option Elab.async false
set_option autoImplicit false
set_option linter.all false
set_option maxRecDepth 100000
set_option maxHeartbeats 2000000
/-! Pages and dues as data; the defs upon pages. -/
namespace CB
open PySem PySem.Spec PyProof.Rows L2
open Evl (Ev EvT EvA EvO)

namespace Pg
def kind : Pg → Str
  | .house .. => "house"
  | .part .. => "part"
  | .join .. => "join"
  | .home .. => "home"
  | .mourn .. => "mourn"
  | .ahead .. => "ahead"
  | .card .. => "card"
  | .visit .. => "visit"
def rest : Pg → List NestedKey
  | .house _ a h => [.text a, .tup (h.map .num)]
  | .part _ a b h => [.text a, .text b, .tup (h.map .num)]
  | .join _ a b => [.text a, .text b]
  | .home _ a h => [.text a, .tup (h.map .num)]
  | .mourn _ a m => [.text a, .num m]
  | .ahead _ a b => [.text a, .text b]
  | .card _ a b => [.text a, .text b]
  | .visit _ a b => [.text a, .text b]
def items (p : Pg) : List NestedKey := .text p.kind :: .num p.day :: p.rest
def key (p : Pg) : NestedKey := .tup p.items
end Pg
theorem nums_inj : ∀ {l m : List Int}, l.map NestedKey.num = m.map NestedKey.num → l = m
  | [], [], _ => rfl
  | [], _ :: _, h => by cases h
  | _ :: _, [], h => by cases h
  | x :: l, y :: m, h => by
    rw [List.map_cons, List.map_cons] at h
    injection h with h1 h2
    injection h1 with h1
    rw [h1, nums_inj h2]
theorem Pg.key_inj {p q : Pg} (h : p.key = q.key) : p = q := by
  have hk : p.kind = q.kind ∧ p.day = q.day ∧ p.rest = q.rest := by
    simp only [Pg.key, Pg.items, NestedKey.tup.injEq, List.cons.injEq, NestedKey.text.injEq, NestedKey.num.injEq] at h
    exact h
  obtain ⟨h1, h2, h3⟩ := hk
  cases p <;> cases q <;> simp only [Pg.kind] at h1 <;> first
    | exact absurd h1 (by decide +kernel)
    | (simp only [Pg.rest, Pg.day, List.cons.injEq, NestedKey.text.injEq, NestedKey.num.injEq, NestedKey.tup.injEq, and_true] at h2 h3
       first
         | (obtain ⟨h4, h5⟩ := h3; subst h2 h4 h5; rfl)
         | (obtain ⟨h4, h5⟩ := h3; rw [h2, h4, nums_inj h5])
         | (obtain ⟨h4, h5, h6⟩ := h3; rw [h2, h4, h5, nums_inj h6]))
def dueKey (d : Due) : NestedKey := .tup [.text d.1, .text d.2.1, d.2.2.key]
theorem dueKey_inj {d e : Due} (h : dueKey d = dueKey e) : d = e := by
  obtain ⟨a, b, p⟩ := d
  obtain ⟨a', b', p'⟩ := e
  simp only [dueKey, NestedKey.tup.injEq, List.cons.injEq, NestedKey.text.injEq, and_true] at h
  rw [h.1, h.2.1, Pg.key_inj h.2.2]
theorem nums_depth (l : List Int) : NestedKey.depthAll (l.map .num) = 0 := by
  induction l with
  | nil => rfl
  | cons x l ih => simp only [List.map_cons, NestedKey.depthAll, ih, NestedKey.depth]; rfl
theorem Pg.key_depth (p : Pg) : p.key.depth ≤ 2 := by
  cases p <;> simp [Pg.key, Pg.items, Pg.rest, NestedKey.depth, NestedKey.depthAll, nums_depth]
theorem dueKey_depth (d : Due) : (dueKey d).depth ≤ 3 := by
  have := d.2.2.key_depth
  simp [dueKey, NestedKey.depth, NestedKey.depthAll]
  omega
theorem Pg.items0 (p : Pg) : atI p.items 0 = some (.text p.kind) := by
  have : (0 : Int) < (p.items.length : Int) := by simp [Pg.items]; omega
  simp [atI, ixN, this]
  rfl
theorem Pg.items1 (p : Pg) : atI p.items 1 = some (.num p.day) := by
  have : (1 : Int) < (p.items.length : Int) := by simp [Pg.items]; cases p <;> simp [Pg.rest] <;> omega
  simp [atI, ixN, this]
  rfl

section
variable {P : Program} {w : World} {K : PySem.W.Frag} {mg : Str → Option Value} {base : Heap} (T : Tp K mg)
include T
def fDay (ks : List NestedKey) (k : NestedKey) : Prop := ∃ p : Pg, ks = [p.key] ∧ k = .num p.day
theorem ok_page_day : Ok P w K mg base 1 ("page_day", none) ["page"] (spF fDay) := by
  refine ok_of T.f_page_day c_page_day (fun _ _ _ _ _ _ us hl => match us, hl with | [_], _ => rfl) (len_F fun ks k ⟨p, e, _⟩ => by rw [e]; rfl) (fun cdv A outer s H vs Q E hr h => ?_)
  obtain ⟨ks, k, ⟨p, rfl, rfl⟩, hs, q⟩ := h
  cases hs with
  | cons h1 h2 =>
    cases h2
    exact ⟨_, pss_one (ps_ret (pe_ix ix_tup (pv 0) pe_int (fun _ _ => rfl))), s_retK (ek_ix (ek_var rfl h1) Evl.ev_c p.items1) fun v H1 e hv => q v H1 e hv⟩
def fKind (ks : List NestedKey) (k : NestedKey) : Prop := ∃ p : Pg, ks = [p.key] ∧ k = .text p.kind
theorem ok_page_kind : Ok P w K mg base 1 ("page_kind", none) ["page"] (spF fKind) := by
  refine ok_of T.f_page_kind c_page_kind (fun _ _ _ _ _ _ us hl => match us, hl with | [_], _ => rfl) (len_F fun ks k ⟨p, e, _⟩ => by rw [e]; rfl) (fun cdv A outer s H vs Q E hr h => ?_)
  obtain ⟨ks, k, ⟨p, rfl, rfl⟩, hs, q⟩ := h
  cases hs with
  | cons h1 h2 =>
    cases h2
    exact ⟨_, pss_one (ps_ret (pe_ix ix_tup (pv 0) pe_int (fun _ _ => rfl))), s_retK (ek_ix (ek_var rfl h1) Evl.ev_c p.items0) fun v H1 e hv => q v H1 e hv⟩

/-! names_of, up_to -/
def Pg.alone : Pg → Bool
  | .house .. | .home .. | .mourn .. => true
  | _ => false
omit T in
theorem alone_eq (p : Pg) : decide (NestedKey.text p.kind ∈ [NestedKey.text "house", .text "home", .text "mourn"]) = p.alone := by
  have k1 : NestedKey.text "house" ∈ [NestedKey.text "house", .text "home", .text "mourn"] := by decide +kernel
  have k2 : NestedKey.text "home" ∈ [NestedKey.text "house", .text "home", .text "mourn"] := by decide +kernel
  have k3 : NestedKey.text "mourn" ∈ [NestedKey.text "house", .text "home", .text "mourn"] := by decide +kernel
  have k4 : ¬ NestedKey.text "part" ∈ [NestedKey.text "house", .text "home", .text "mourn"] := by decide +kernel
  have k5 : ¬ NestedKey.text "join" ∈ [NestedKey.text "house", .text "home", .text "mourn"] := by decide +kernel
  have k6 : ¬ NestedKey.text "ahead" ∈ [NestedKey.text "house", .text "home", .text "mourn"] := by decide +kernel
  have k7 : ¬ NestedKey.text "card" ∈ [NestedKey.text "house", .text "home", .text "mourn"] := by decide +kernel
  have k8 : ¬ NestedKey.text "visit" ∈ [NestedKey.text "house", .text "home", .text "mourn"] := by decide +kernel
  cases p <;> first
    | exact decide_eq_true k1
    | exact decide_eq_true k2
    | exact decide_eq_true k3
    | exact decide_eq_false k4
    | exact decide_eq_false k5
    | exact decide_eq_false k6
    | exact decide_eq_false k7
    | exact decide_eq_false k8
def Pg.fst : Pg → Str
  | .house _ a _ | .home _ a _ | .mourn _ a _ => a
  | .part _ a _ _ | .join _ a _ | .ahead _ a _ | .card _ a _ | .visit _ a _ => a
def Pg.snd : Pg → Str
  | .house _ a _ | .home _ a _ | .mourn _ a _ => a
  | .part _ _ b _ | .join _ _ b | .ahead _ _ b | .card _ _ b | .visit _ _ b => b
omit T in
theorem Pg.items2 (p : Pg) : atI p.items 2 = some (.text p.fst) := by cases p <;> rfl
omit T in
theorem Pg.items3 (p : Pg) (h : p.alone = false) : atI p.items 3 = some (.text p.snd) := by
  cases p <;> first
    | rfl
    | cases h
omit T in
theorem Pg.names1 (p : Pg) (h : p.alone = true) : p.names = [p.fst] := by
  cases p <;> first
    | rfl
    | cases h
omit T in
theorem Pg.names2 (p : Pg) (h : p.alone = false) : p.names = [p.fst, p.snd] := by
  cases p <;> first
    | rfl
    | cases h
def fNames (ks : List NestedKey) (k : NestedKey) : Prop := ∃ p : Pg, ks = [p.key] ∧ k = .tup (p.names.map .text)
omit T in
theorem aloneAll (H : Hp) : KAll H [.str "house", .str "home", .str "mourn"] [NestedKey.text "house", .text "home", .text "mourn"] := .cons (.text _) (.cons (.text _) (.cons (.text _) .nil))
theorem ok_names_of : Ok P w K mg base 1 ("names_of", none) ["page"] (spF fNames) := by
  refine ok_of T.f_names_of c_names_of (fun _ _ _ _ _ _ us hl => match us, hl with | [_], _ => rfl) (len_F fun ks k ⟨p, e, _⟩ => by rw [e]; rfl) (fun cdv A outer s H vs Q E hr h => ?_)
  obtain ⟨ks, k, ⟨p, rfl, rfl⟩, hs, q⟩ := h
  have hu := hr.units
  cases hs with
  | cons h1 h2 =>
    cases h2
    refine ⟨_, pss_cons (ps_if (pt_cmpR (op_inN hu) (pe_ix ix_tup (pv 0) pe_int (fun _ _ => rfl)) (pe_glob (v := .ref (He.ga K "ALONE")) rfl T.g_ALONE rfl) (by with_unfolding_all rfl)) (pss_one (ps_ret (pe_tup (pa_cons (pe_ix ix_tup (pv 0) pe_int (fun _ _ => rfl)) pa_nil)))) pss_nil)
      (pss_one (ps_ret (pe_tup (pa_cons (pe_ix ix_tup (pv 0) pe_int (fun _ _ => rfl)) (pa_cons (pe_ix ix_tup (pv 0) pe_int (fun _ _ => rfl)) pa_nil))))), ?_⟩
    refine Evl.s_if (et_T (Evl.ev_is (eb_in (neg := false) (ek_ix (ek_var rfl h1) Evl.ev_c p.items0) Evl.ev_c (.inr (T.alone H)) (aloneAll H) (by decide)) (congrArg V.bl (alone_eq p)))) (fun hb H1 s1 => ?_) (fun hb H1 s1 => ?_)
    · have e := p.names1 hb
      exact s_retK (ek_tup (eks_cons (ek_ix (ek_var rfl (h1.mono s1)) Evl.ev_c p.items2) eks_nil)) fun v H2 s2 hv => q v H2 (s1.tr s2) (by rw [e]; exact hv)
    · have e := p.names2 hb
      exact s_retK (ek_tup (eks_cons (ek_ix (ek_var rfl (h1.mono s1)) Evl.ev_c p.items2) (eks_cons (ek_ix (ek_var rfl (h1.mono s1)) Evl.ev_c (p.items3 hb)) eks_nil))) fun v H2 s2 hv => q v H2 (s1.tr s2) (by rw [e]; exact hv)
def pgs (ps : List Pg) : List NestedKey := ps.map Pg.key
def fUpTo (ks : List NestedKey) (k : NestedKey) : Prop := ∃ (ps : List Pg) (d : Int), ps.length ≤ 1000 ∧ ks = [.tup (pgs ps), .num d] ∧ k = .tup (pgs (ps.filter fun p => decide (p.day ≤ d)))
/-- a property of a page as one of its datum -/
noncomputable def ofKey (f : Pg → Bool) (k : NestedKey) : Bool := open Classical in if h : ∃ p : Pg, k = p.key then f h.choose else false
omit T in
theorem ofKey_key (f : Pg → Bool) (p : Pg) : ofKey f p.key = f p := by
  unfold ofKey
  have h : ∃ q : Pg, p.key = q.key := ⟨p, rfl⟩
  rw [dif_pos h]
  exact congrArg f (Pg.key_inj h.choose_spec).symm
omit T in
theorem pgs_filter (f : Pg → Bool) (ps : List Pg) : (pgs ps).filter (ofKey f) = pgs (ps.filter f) := by
  unfold pgs
  rw [List.filter_map]
  congr 1
  refine List.filter_congr fun p _ => ?_
  exact ofKey_key f p
omit T in
theorem mem_pgs {ps : List Pg} {k : NestedKey} (h : k ∈ pgs ps) : ∃ p ∈ ps, k = p.key := by
  obtain ⟨p, hp, e⟩ := List.mem_map.mp h
  exact ⟨p, hp, e.symm⟩
theorem ok_up_to : Ok P w K mg base 2 ("up_to", none) ["book", "day"] (spF fUpTo) := by
  have G := ok_page_day (P := P) (w := w) (base := base) T
  refine ok_of T.f_up_to c_up_to (fun _ _ _ _ _ _ us hl => match us, hl with | [_, _], _ => rfl) (len_F fun ks k ⟨p, d, _, e, _⟩ => by rw [e]; rfl) (fun cdv A outer s H vs Q E hr h => ?_)
  obtain ⟨ks, k, ⟨ps, d, hl, rfl, rfl⟩, hs, q⟩ := h
  cases hs with
  | @cons b _ _ _ h1 h2 =>
    cases h2 with
    | @cons dv _ _ _ h2 h3 =>
      cases h3
      refine ⟨_, pss_one (ps_ret (pe_callTy call_tuple_of (by rfl) T.b_tuple PyProof.Rows.boot_tuple (pa_cons (pe_lc (own := [("page", 2)]) (g := gName 2) rfl c_up_to.nd (pi_tup (pv 0)) (blkOk_by (N := ["book", "day", "page"]) (sc := defScope s_up_to) (by decide +kernel)) (fun _ _ _ _ _ => pg_name (i := 2) c_up_to.nd rfl (.inl rfl))
        (fun _ _ _ _ _ => pts_one (pt_cmpR op_le (pe_fn G hr (by rfl) T.g_page_day (pa_cons (pv 2) pa_nil)) (pv 1) (nomark _))) (fun _ _ _ _ _ => pv 2)) pa_nil))), ?_⟩
      refine s_retK (ek_tupOf ?_) fun v H1 s1 hv => q v H1 s1 hv
      rw [← pgs_filter, ← List.map_id ((pgs ps).filter _)]
      refine el_lc (v := fun k => k) (src_tup (ek_var rfl h1)) (by unfold pgs; rw [List.length_map]; omega) fun k hk H1 x s1 hx => ?_
      obtain ⟨p, hp, rfl⟩ := mem_pgs hk
      cases h2
      refine turn_name hx rfl ?_ fun _ => ek_var rfl hx
      rw [ofKey_key]
      exact et_T (eb_leI (EvK.num (ek_call (eks_cons (ek_var rfl hx) eks_nil) ⟨p, rfl, rfl⟩)) (Evl.ev_var rfl))
end
end CB
/-! CBF2 -/
set_option Elab.async false
set_option autoImplicit false
set_option linter.all false
set_option maxRecDepth 100000
set_option maxHeartbeats 2000000
/-! stays, term_of. -/
namespace CB
open PySem PySem.Spec PyProof.Rows L2
open Evl (Ev EvT EvA EvO)
def nums (l : List Int) : List NestedKey := l.map .num
theorem kall_nums {H : Hp} : ∀ {l : List Int} {xs : List V}, KAll H xs (nums l) → xs = l.map V.int
  | [], _, h => by cases h; rfl
  | i :: l, _, h => by
    cases h with
    | cons h1 h2 =>
      cases h1
      rw [kall_nums h2]
      rfl
theorem lexAt_le (L M : List Int) (z : Bool) : ∀ (l m : List Int) (i : Nat), (∀ j, L.getD (i + j) 0 = l.getD j 0) → (∀ j, M.getD (i + j) 0 = m.getD j 0) → z = decide (l.length ≤ m.length) →
    Ob.lexAt (fun j => decide (L.getD j 0 = M.getD j 0)) (fun j => decide (L.getD j 0 ≤ M.getD j 0)) z i (min l.length m.length) = lexLe l m
  | [], m, i, _, _, hz => by
    rw [List.length_nil, Nat.zero_min, Ob.lexAt_zero, hz]
    simp [lexLe]
  | x :: l, [], i, _, _, hz => by
    rw [List.length_nil, Nat.min_zero, Ob.lexAt_zero, hz]
    simp [lexLe]
  | x :: l, y :: m, i, hl, hm, hz => by
    have e0 : L.getD i 0 = x := by simpa using hl 0
    have e1 : M.getD i 0 = y := by simpa using hm 0
    have em : min (x :: l).length (y :: m).length = min l.length m.length + 1 := by
      rw [List.length_cons, List.length_cons]; omega
    rw [em, Ob.lexAt_succ, e0, e1, lexLe]
    by_cases e : x = y
    · rw [if_pos (decide_eq_true e), if_pos e]
      exact lexAt_le L M z l m (i + 1) (fun j => by rw [Nat.add_assoc, Nat.add_comm 1 j]; simpa using hl (j + 1)) (fun j => by rw [Nat.add_assoc, Nat.add_comm 1 j]; simpa using hm (j + 1)) (by rw [hz]; simp)
    · rw [if_neg (by simp [e]), if_neg e]
      exact decide_eq_decide.mpr (by omega)
theorem last_at {l : List Int} (h : l ≠ []) : atI (nums l) (-1) = some (.num (lastI l)) := by
  have hl : 0 < l.length := List.length_pos_iff.mpr h
  have e1 : ixN (nums l).length (-1) = some (l.length - 1) := by
    unfold ixN nums
    rw [List.length_map, if_neg (by decide), if_pos (by omega)]
    congr 1
    omega
  unfold atI
  rw [e1]
  show (nums l)[l.length - 1]? = _
  unfold nums lastI
  rw [List.getElem?_map, ← List.getLast?_eq_getElem?, List.getLastD_eq_getLast?]
  cases e : l.getLast? with
  | none => exact absurd (List.getLast?_eq_none_iff.mp e) h
  | some x => rfl
section
variable {P : Program} {w : World} {K : PySem.W.Frag} {mg : Str → Option Value} {base : Heap} (T : Tp K mg)
include T
def fTerm (ks : List NestedKey) (k : NestedKey) : Prop := ∃ (t : Int × Int) (s : Str), ks = [.tup [.num t.1, .num t.2], .text s] ∧ k = .num (termOf t s)
theorem ok_term_of : Ok P w K mg base 1 ("term_of", none) ["terms", "sort"] (spF fTerm) := by
  refine ok_of T.f_term_of c_term_of (fun _ _ _ _ _ _ us hl => match us, hl with | [_, _], _ => rfl) (len_F fun ks k ⟨p, d, e, _⟩ => by rw [e]; rfl) (fun cdv A outer s H vs Q E hr h => ?_)
  obtain ⟨ks, k, ⟨t, s, rfl, rfl⟩, hs, q⟩ := h
  cases hs with
  | cons h1 h2 =>
    cases h2 with
    | cons h2 h3 =>
      cases h3
      cases h2
      refine ⟨_, pss_one (ps_ret (pe_ifExp (pt_cmpR op_eq (pv 1) pe_str (nomark _)) (pe_ix ix_tup (pv 0) pe_int (fun _ _ => rfl)) (pe_ix ix_tup (pv 0) pe_int (fun _ _ => rfl)))), ?_⟩
      refine s_retK (ek_if (et_T (eb_eqT (Evl.ev_var rfl) Evl.ev_c)) (fun hb => ?_) (fun hb => ?_)) fun v H1 s1 hv => q v H1 s1 hv
      · have e : s = sV := of_decide_eq_true hb
        unfold termOf
        rw [if_pos e]
        exact ek_ix (ek_var rfl h1) Evl.ev_c rfl
      · have e : ¬ s = sV := of_decide_eq_false hb
        unfold termOf
        rw [if_neg e]
        exact ek_ix (ek_var rfl h1) Evl.ev_c rfl
def fStays (ks : List NestedKey) (b : Bool) : Prop := ∃ l m : List Int, ks = [.tup (nums l), .tup (nums m)] ∧ b = stays l m
theorem ok_stays : Ok P w K mg base 1 ("stays", none) ["one", "other"] (spB fStays) := by
  refine ok_of T.f_stays c_stays (fun _ _ _ _ _ _ us hl => match us, hl with | [_, _], _ => rfl) (len_B fun ks k ⟨p, d, e, _⟩ => by rw [e]; rfl) (fun cdv A outer s H vs Q E hr h => ?_)
  obtain ⟨ks, k, ⟨l, m, rfl, rfl⟩, hs, q⟩ := h
  have hu := hr.units
  cases hs with
  | cons h1 h2 =>
    cases h2 with
    | cons h2 h3 =>
      cases h3
      refine ⟨_, pss_cons (ps_if (pt_cmpR op_ne (pe_callB call_len_seq (by rfl) T.b_len PySem.boot_len (pa_cons (pv 0) pa_nil)) (pe_callB call_len_seq (by rfl) T.b_len PySem.boot_len (pa_cons (pv 1) pa_nil)) (nomark _))
          (pss_one (ps_ret (pe_cmpR op_gt (pe_callB call_len_seq (by rfl) T.b_len PySem.boot_len (pa_cons (pv 0) pa_nil)) (pe_callB call_len_seq (by rfl) T.b_len PySem.boot_len (pa_cons (pv 1) pa_nil)) (nomark _)))) pss_nil)
        (pss_cons (ps_if (pw_and (pt_cmpR (op_neN hu) (pv 0) (pe_tup pa_nil) (nomark _)) (pw_and1 (pt_cmpR op_ne (pe_ix ix_tup (pv 0) (pe_un un_neg pe_int) (fun _ _ => rfl)) (pe_ix ix_tup (pv 1) (pe_un un_neg pe_int) (fun _ _ => rfl)) (nomark _)))).pt
          (pss_one (ps_ret (pe_cmpR op_lt (pe_ix ix_tup (pv 0) (pe_un un_neg pe_int) (fun _ _ => rfl)) (pe_ix ix_tup (pv 1) (pe_un un_neg pe_int) (fun _ _ => rfl)) (nomark _)))) pss_nil)
        (pss_one (ps_ret (pe_cmpR (op_leT (Nat.lt_of_le_of_lt (Nat.le_add_right _ 64) hu)) (pv 0) (pv 1) (nomark _))))), ?_⟩
      have n1 : (nums l).length = l.length := List.length_map _
      have n2 : (nums m).length = m.length := List.length_map _
      refine Evl.s_if (et_T (eb_neI (ek_len (ek_var rfl h1)) (ek_len (ek_var rfl h2)))) (fun hb H1 s1 => ?_) (fun hb H1 s1 => ?_)
      · have ne : l.length ≠ m.length := by
          rw [n1, n2] at hb
          intro z
          rw [z] at hb
          simp at hb
        have e : stays l m = decide (((nums m).length : Int) < (nums l).length) := by
          unfold stays
          rw [if_pos ne, n1, n2]
          exact decide_eq_decide.mpr (by omega)
        exact Evl.s_ret (eb_gtI (ek_len (ek_var rfl (h1.mono s1))) (ek_len (ek_var rfl (h2.mono s1)))) fun H2 s2 => e ▸ q H2 (s1.tr s2)
      · have eq : l.length = m.length := by
          rw [n1, n2] at hb
          simp at hb
          omega
        have h1' := h1.mono s1
        have h2' := h2.mono s1
        have hne : ∀ {x : List Int}, (!decide (nums x = [])) = true → x ≠ [] := fun {x} z y => by rw [y] at z; simp [nums] at z
        have mne : l ≠ [] → m ≠ [] := fun z y => z (List.length_eq_zero_iff.mp (by rw [eq, y]; rfl))
        refine Evl.s_if (b := !decide (nums l = []) && !decide (lastI l = lastI m)) (Evl.et_and (et_T (eb_neN (ek_var rfl h1') (ek_tup eks_nil) (by show NestedKey.depthAll (l.map .num) ≤ 30; rw [nums_depth]; decide))) fun ha =>
            et_T (eb_neI (EvK.num (ek_ix (ek_var rfl h1') ev_neg1 (last_at (hne ha)))) (EvK.num (ek_ix (ek_var rfl h2') ev_neg1 (last_at (mne (hne ha))))))) (fun hb2 H2 s2 => ?_) (fun hb2 H2 s2 => ?_)
        · rw [Bool.and_eq_true] at hb2
          have ln := hne hb2.1
          have e : stays l m = decide (lastI l < lastI m) := by
            unfold stays
            rw [if_neg (by simpa using eq), if_pos ⟨ln, by simpa using hb2.2⟩]
          exact Evl.s_ret (eb_ltI (EvK.num (ek_ix (ek_var rfl (h1'.mono s2)) ev_neg1 (last_at ln))) (EvK.num (ek_ix (ek_var rfl (h2'.mono s2)) ev_neg1 (last_at (mne ln))))) fun H3 s3 => e ▸ q H3 (s1.tr (Same.tr s2 s3))
        · have e : stays l m = lexLe l m := by
            unfold stays
            rw [if_neg (by simpa using eq), if_neg]
            rintro ⟨a, b⟩
            have z1 : decide (nums l = []) = false := decide_eq_false fun y => a (by cases l with
              | nil => rfl
              | cons x l => simp [nums] at y)
            rw [z1, decide_eq_false b] at hb2
            cases hb2
          obtain ⟨a1, x1, e1, g1, g2⟩ := (h1'.mono s2).tupRef
          obtain ⟨a2, x2, e2, g3, g4⟩ := (h2'.mono s2).tupRef
          subst e1 e2
          have y1 := kall_nums g2
          have y2 := kall_nums g4
          subst y1 y2
          refine ⟨_, rfl, _, rfl, a1, a2, l, m, rfl, rfl, .of g1, .of g3, ?_⟩
          rw [lexAt_le l m _ l m 0 (fun j => by rw [Nat.zero_add]) (fun j => by rw [Nat.zero_add]) rfl, ← e]
          exact q H2 (s1.tr s2)
end
end CB
/-! CBH -/
set_option Elab.async false
set_option autoImplicit false
set_option linter.all false
set_option maxRecDepth 100000
set_option maxHeartbeats 2000000
/-! Houses: who stands. -/
namespace CB
open PySem PySem.Spec PyProof.Rows L2
open Evl (Ev EvT EvA EvO)

theorem valV_drop {κ : Type} [DecidableEq κ] (kvs : List (κ × V)) (k j : κ) : valV (dropK kvs k) j = if j = k then none else valV kvs j := aget_adel kvs k j

section
variable {X : Cx} {k : Nat} {cls m : Str} {ps : List Str} {sp : Sp} {o e : Expr} {es : List Expr} {ta : TE} {t : TA} {apos pos : Pos} {pl : Sem Bool}
theorem pe_mt (O : Ok X.prog X.w X.K X.mg X.base k (cls, some m) ps sp) (hr : Room k X.A) (he : PE X o ta) (c : Cls X.K (He.ga X.K cls)) (hm : Meth X.K (He.ga X.K cls) m (He.fAd X.K (cls, some m))) (ha : PA X (e :: es) t)
    (hst : starEach (e :: es) X.env = (false, eval e X.env) :: starEach es X.env := by rfl) (hpl : (backTo pos (starEach es X.env)).any (·.1) = false := by rfl)
    (ht : eval (.Call (.Attribute o m apos) (e :: es) [] pos) X.env = (do
      let ov ← eval o X.env
      standAt apos.atName
      let (f, first) ← holding [ov] (getMethod ov m pl)
      callWith pos f first (backTo pos (starEach (e :: es) X.env)) (backToKw pos (keywordEach [] X.env))) := by rfl) :
    PE X (.Call (.Attribute o m apos) (e :: es) [] pos) (tMeth (He.ga X.K cls) m sp [] E0 ta t) := by
  obtain ⟨⟨fd, b, F⟩, kp⟩ := O
  exact pe_meth he c hm F hr b .nil pass0 ha hst hpl ht
theorem pe_mt0 (O : Ok X.prog X.w X.K X.mg X.base k (cls, some m) ps sp) (hr : Room k X.A) (he : PE X o ta) (c : Cls X.K (He.ga X.K cls)) (hm : Meth X.K (He.ga X.K cls) m (He.fAd X.K (cls, some m)))
    (ht : eval (.Call (.Attribute o m apos) [] [] pos) X.env = (do
      let ov ← eval o X.env
      standAt apos.atName
      let (f, first) ← holding [ov] (getMethod ov m pl)
      callWith pos f first (backTo pos (starEach [] X.env)) (backToKw pos (keywordEach [] X.env))) := by rfl) :
    PE X (.Call (.Attribute o m apos) [] [] pos) (tMeth (He.ga X.K cls) m sp [] E0 ta tNil) := by
  obtain ⟨⟨fd, b, F⟩, kp⟩ := O
  exact pe_meth0 he c hm F hr b .nil pass0 ht
end
section
variable {C a dx : Addr} {m : Str} {sp : Sp} {fs : List (Str × V)} {σ : L2.St} {H : Hp} {ta : TE} {t : TA} {ks : List NestedKey} {Q : VK} {E : XK}
theorem me_K (h : Ev ta σ H (.ref a)) (hi : H a = some (.ins C dx fs)) (hn : fs.lookup m = none) (ht : EvKs t σ H ks) (q : ∀ vs H1, Same H H1 → KAll H1 vs ks → sp (.ref a :: vs) H1 Q E) : tMeth C m sp [] E ta t σ H Q :=
  h H (Evl.Ex.refl _) _ fun H1 s1 => ⟨a, dx, fs, rfl, s1 _ _ hi, hn, ht H1 s1 _ fun vs H2 s2 hv => by
    rw [List.append_nil]
    exact q vs H2 (s1.tr s2) hv⟩
theorem me_V {vs : List V} (h : Ev ta σ H (.ref a)) (hi : H a = some (.ins C dx fs)) (hn : fs.lookup m = none) (ht : EvA t σ H vs) (q : ∀ H1, Same H H1 → sp (.ref a :: vs) H1 Q E) : tMeth C m sp [] E ta t σ H Q :=
  h H (Evl.Ex.refl _) _ fun H1 s1 => ⟨a, dx, fs, rfl, s1 _ _ hi, hn, ht H1 s1 _ fun H2 s2 => by
    rw [List.append_nil]
    exact q H2 (s1.tr s2)⟩
end

structure HAd where
  (x dx homes parents joined mourned idle : Addr)
  ml : List Addr
def HAd.fs (a : HAd) : List (Str × V) := [((("homes" : Str)), V.ref a.homes), (("parents" : Str), V.ref a.parents), (("joined" : Str), V.ref a.joined), (("mourned" : Str), V.ref a.mourned), (("idle_pages" : Str), V.ref a.idle)]
def HAd.fp (a : HAd) : List Addr := [a.homes, a.parents, a.joined, a.mourned, a.idle] ++ a.ml
theorem HAd.f1 (a : HAd) : a.fs.lookup ("homes" : Str) = some (.ref a.homes) := by rfl
theorem HAd.f2 (a : HAd) : a.fs.lookup ("parents" : Str) = some (.ref a.parents) := by rfl
theorem HAd.f3 (a : HAd) : a.fs.lookup ("joined" : Str) = some (.ref a.joined) := by rfl
theorem HAd.f4 (a : HAd) : a.fs.lookup ("mourned" : Str) = some (.ref a.mourned) := by rfl
theorem HAd.f5 (a : HAd) : a.fs.lookup ("idle_pages" : Str) = some (.ref a.idle) := by rfl
theorem HAd.m1 (a : HAd) : a.fs.lookup ("can" : Str) = none := by rfl
theorem HAd.m2 (a : HAd) : a.fs.lookup ("come" : Str) = none := by rfl
theorem HAd.m3 (a : HAd) : a.fs.lookup ("do" : Str) = none := by rfl
theorem HAd.m4 (a : HAd) : a.fs.lookup ("meet" : Str) = none := by rfl
theorem HAd.m5 (a : HAd) : a.fs.lookup ("ask_standing" : Str) = none := by rfl

/-- a Houses object: h what it says, n a bound of what it was told -/
structure HAt (H : Hp) (C : Addr) (a : HAd) (h : HS) (n : Nat) : Prop where
  ins : H a.x = some (.ins C a.dx a.fs)
  homes : ∃ kvs, H a.homes = some (.dK kvs) ∧ (∀ s : Str, (valV kvs (Sum.inr s)).isSome = decide (s ∈ h.stands)) ∧ kvs.length ≤ n
  parents : ∃ kvs, H a.parents = some (.dK kvs) ∧ (∀ s : Str, (valV kvs (Sum.inr s)).isSome = decide (s ∈ h.came)) ∧ kvs.length ≤ n
  joined : ∃ kvs, H a.joined = some (.dK kvs) ∧ kvs.length ≤ n
  mourned : ∃ kvs, H a.mourned = some (.dK kvs) ∧ kvs.length ≤ n ∧ ∀ s ∈ h.came, ∃ l, valV kvs (Sum.inr s) = some (.ref l) ∧ l ∈ a.ml
  lists : ∀ l ∈ a.ml, ∃ xs, H l = some (.lst xs) ∧ xs.length ≤ n
  idle : ∃ xs, H a.idle = some (.lst xs) ∧ KAll H xs (pgs h.idle) ∧ xs.length ≤ n
  nd : a.fp.Nodup
  sub : ∀ s ∈ h.stands, s ∈ h.came
/-- from one to the next -/
structure HStep (H H' : Hp) (a a' : HAd) : Prop where
  keep : ∀ b o, H b = some o → b ∉ a.fp → H' b = some o
  fp : ∀ b ∈ a'.fp, b ∈ a.fp ∨ H b = none
  x : a'.x = a.x
  tup : TupLe H H'
theorem HStep.refl (H : Hp) (a : HAd) : HStep H H a a := ⟨fun _ _ e _ => e, fun _ h => .inl h, rfl, .refl H⟩
theorem HStep.same {H H' : Hp} (s : Same H H') (a : HAd) : HStep H H' a a := ⟨fun _ _ e _ => s _ _ e, fun _ h => .inl h, rfl, .of_same s⟩
theorem HStep.trans {H H1 H2 : Hp} {a a1 a2 : HAd} (s : HStep H H1 a a1) (t : HStep H1 H2 a1 a2) : HStep H H2 a a2 where
  keep := fun b o e hb => t.keep b o (s.keep b o e hb) fun hb1 => (s.fp b hb1).elim hb fun n => by rw [n] at e; cases e
  fp := fun b hb => (t.fp b hb).elim (fun h => s.fp b h) fun n => by
    by_cases hb1 : b ∈ a.fp
    · exact .inl hb1
    · refine .inr ?_
      cases e : H b with
      | none => rfl
      | some o => rw [s.keep b o e hb1] at n; cases n
  x := t.x.trans s.x
  tup := s.tup.trans t.tup
section
variable {H H' : Hp} {C : Addr} {a : HAd} {h : HS} {n : Nat}
theorem HAt.same (A : HAt H C a h n) (s : Same H H') : HAt H' C a h n := by
  obtain ⟨h1, ⟨k2, a2, b2⟩, ⟨k3, a3, b3⟩, ⟨k4, a4, b4⟩, ⟨k5, a5, b5⟩, h6, ⟨x7, a7, b7, c7⟩, h8, h9⟩ := A
  exact ⟨s _ _ h1, ⟨k2, s _ _ a2, b2⟩, ⟨k3, s _ _ a3, b3⟩, ⟨k4, s _ _ a4, b4⟩, ⟨k5, s _ _ a5, b5⟩, fun l hl => let ⟨xs, e, z⟩ := h6 l hl; ⟨xs, s _ _ e, z⟩, ⟨x7, s _ _ a7, b7.mono s, c7⟩, h8, h9⟩
theorem HAt.ntup (A : HAt H C a h n) : ∀ b ∈ a.fp, ∀ ys, H b ≠ some (.tup ys) := by
  obtain ⟨h1, ⟨k2, a2, b2⟩, ⟨k3, a3, b3⟩, ⟨k4, a4, b4⟩, ⟨k5, a5, b5⟩, h6, ⟨x7, a7, b7, c7⟩, h8, h9⟩ := A
  intro b hb ys e
  simp only [HAd.fp, List.mem_append, List.mem_cons, List.not_mem_nil, or_false] at hb
  rcases hb with (rfl | rfl | rfl | rfl | rfl) | hb
  · rw [a2] at e; cases e
  · rw [a3] at e; cases e
  · rw [a4] at e; cases e
  · rw [a5] at e; cases e
  · rw [a7] at e; cases e
  · obtain ⟨xs, e2, _⟩ := h6 b hb
    rw [e2] at e; cases e
theorem HAt.nx (A : HAt H C a h n) : a.x ∉ a.fp := by
  obtain ⟨h1, ⟨k2, a2, b2⟩, ⟨k3, a3, b3⟩, ⟨k4, a4, b4⟩, ⟨k5, a5, b5⟩, h6, ⟨x7, a7, b7, c7⟩, h8, h9⟩ := A
  intro hb
  simp only [HAd.fp, List.mem_append, List.mem_cons, List.not_mem_nil, or_false] at hb
  rcases hb with (e | e | e | e | e) | hb
  · rw [e, a2] at h1; cases h1
  · rw [e, a3] at h1; cases h1
  · rw [e, a4] at h1; cases h1
  · rw [e, a5] at h1; cases h1
  · rw [e, a7] at h1; cases h1
  · obtain ⟨xs, e2, _⟩ := h6 _ hb
    rw [e2] at h1; cases h1
/-- a step from what may have changed -/
theorem HAt.step (A : HAt H C a h n) {a' : HAd} (k : ∀ b o, H b = some o → b ∉ a.fp → H' b = some o) (fp : ∀ b ∈ a'.fp, b ∈ a.fp ∨ H b = none) (x : a'.x = a.x) : HStep H H' a a' :=
  ⟨k, fp, x, fun b ys e => k b _ e fun hb => A.ntup b hb ys e⟩
theorem HAt.more (A : HAt H C a h n) {m : Nat} (le : n ≤ m) : HAt H C a h m := by
  obtain ⟨h1, ⟨k2, a2, b2, c2⟩, ⟨k3, a3, b3, c3⟩, ⟨k4, a4, b4⟩, ⟨k5, a5, b5, c5⟩, h6, ⟨x7, a7, b7, c7⟩, h8, h9⟩ := A
  exact ⟨h1, ⟨k2, a2, b2, Nat.le_trans c2 le⟩, ⟨k3, a3, b3, Nat.le_trans c3 le⟩, ⟨k4, a4, Nat.le_trans b4 le⟩, ⟨k5, a5, Nat.le_trans b5 le, c5⟩, fun l hl => let ⟨xs, e, z⟩ := h6 l hl; ⟨xs, e, Nat.le_trans z le⟩, ⟨x7, a7, b7, Nat.le_trans c7 le⟩, h8, h9⟩
end
theorem small {n : Nat} (h : n ≤ 2000) : n < sizeLine := Nat.lt_of_le_of_lt h (by decide)

section
variable {P : Program} {w : World} {K : PySem.W.Frag} {mg : Str → Option Value} {base : Heap} (T : Tp K mg)
include T
abbrev cH (K : PySem.W.Frag) : Addr := He.ga K "Houses"
def spHInit (C : Addr) : Sp := fun vs H Q _ => ∃ (p dx : Addr), vs = [.ref p] ∧ H p = some (.ins C dx []) ∧ ∀ a H', a.x = p → HAt H' C a HS.start 0 → (∀ b o, H b = some o → b ≠ p → H' b = some o) → (∀ b ∈ a.fp, H b = none) → Q .non H'
theorem ok_hinit : Ok P w K mg base 1 ("Houses", some "__init__") ["self"] (spHInit (cH K)) := by
  refine ok_of T.f_Houses_init c_Houses_init (fun _ _ _ _ _ _ us hl => match us, hl with | [_], _ => rfl) (fun vs H Q E ⟨p, dx, e, _⟩ => by rw [e]; rfl) (fun cdv A outer s H vs Q E hr h => ?_)
  obtain ⟨p, dx, rfl, hp, q⟩ := h
  refine ⟨_, pss_cons (ps_fld (pv 0) pe_dnewK rfl) (pss_cons (ps_fld (pv 0) pe_dnewK rfl) (pss_cons (ps_fld (pv 0) pe_dnewK rfl) (pss_cons (ps_fld (pv 0) pe_dnewK rfl) (pss_one (ps_fld (pv 0) (pe_lst pa_nil) rfl))))), ?_⟩
  intro d1 n1
  have p1 : p ≠ d1 := ne_of_none hp n1
  refine ⟨_, rfl, p, _, dx, [], rfl, (by rw [upd_ne p1]; exact hp), T.cl_Houses, T.n_Houses_homes, (by decide), ?_⟩
  intro d2 n2
  have n2a : H d2 = none ∧ d2 ≠ p ∧ d2 ≠ d1 := by
    have z1 : d2 ≠ p := fun z => by rw [z, upd_same] at n2; cases n2
    have z2 : d2 ≠ d1 := fun z => by rw [upd_ne z1, z, upd_same] at n2; cases n2
    rw [upd_ne z1, upd_ne z2] at n2
    exact ⟨n2, z1, z2⟩
  refine ⟨_, rfl, p, _, dx, _, rfl, (by rw [upd_ne n2a.2.1.symm]; exact upd_same), T.cl_Houses, T.n_Houses_parents, (Nat.le_of_ble_eq_true rfl), ?_⟩
  intro d3 n3
  have n3a : H d3 = none ∧ d3 ≠ p ∧ d3 ≠ d1 ∧ d3 ≠ d2 := by
    have z1 : d3 ≠ p := fun z => by rw [z, upd_same] at n3; cases n3
    have z3 : d3 ≠ d2 := fun z => by rw [upd_ne z1, z, upd_same] at n3; cases n3
    have z2 : d3 ≠ d1 := fun z => by rw [upd_ne z1, upd_ne z3, upd_ne z1, z, upd_same] at n3; cases n3
    rw [upd_ne z1, upd_ne z3, upd_ne z1, upd_ne z2] at n3
    exact ⟨n3, z1, z2, z3⟩
  refine ⟨_, rfl, p, _, dx, _, rfl, (by rw [upd_ne n3a.2.1.symm]; exact upd_same), T.cl_Houses, T.n_Houses_joined, (Nat.le_of_ble_eq_true rfl), ?_⟩
  intro d4 n4
  have n4a : H d4 = none ∧ d4 ≠ p ∧ d4 ≠ d1 ∧ d4 ≠ d2 ∧ d4 ≠ d3 := by
    have z1 : d4 ≠ p := fun z => by rw [z, upd_same] at n4; cases n4
    have z4 : d4 ≠ d3 := fun z => by rw [upd_ne z1, z, upd_same] at n4; cases n4
    have z3 : d4 ≠ d2 := fun z => by rw [upd_ne z1, upd_ne z4, upd_ne z1, z, upd_same] at n4; cases n4
    have z2 : d4 ≠ d1 := fun z => by rw [upd_ne z1, upd_ne z4, upd_ne z1, upd_ne z3, upd_ne z1, z, upd_same] at n4; cases n4
    rw [upd_ne z1, upd_ne z4, upd_ne z1, upd_ne z3, upd_ne z1, upd_ne z2] at n4
    exact ⟨n4, z1, z2, z3, z4⟩
  refine ⟨_, rfl, p, _, dx, _, rfl, (by rw [upd_ne n4a.2.1.symm]; exact upd_same), T.cl_Houses, T.n_Houses_mourned, (Nat.le_of_ble_eq_true rfl), ?_⟩
  refine ⟨by decide, fun d5 n5 => ?_⟩
  have n5a : H d5 = none ∧ d5 ≠ p ∧ d5 ≠ d1 ∧ d5 ≠ d2 ∧ d5 ≠ d3 ∧ d5 ≠ d4 := by
    have z1 : d5 ≠ p := fun z => by rw [z, upd_same] at n5; cases n5
    have z5 : d5 ≠ d4 := fun z => by rw [upd_ne z1, z, upd_same] at n5; cases n5
    have z4 : d5 ≠ d3 := fun z => by rw [upd_ne z1, upd_ne z5, upd_ne z1, z, upd_same] at n5; cases n5
    have z3 : d5 ≠ d2 := fun z => by rw [upd_ne z1, upd_ne z5, upd_ne z1, upd_ne z4, upd_ne z1, z, upd_same] at n5; cases n5
    have z2 : d5 ≠ d1 := fun z => by rw [upd_ne z1, upd_ne z5, upd_ne z1, upd_ne z4, upd_ne z1, upd_ne z3, upd_ne z1, z, upd_same] at n5; cases n5
    rw [upd_ne z1, upd_ne z5, upd_ne z1, upd_ne z4, upd_ne z1, upd_ne z3, upd_ne z1, upd_ne z2] at n5
    exact ⟨n5, z1, z2, z3, z4, z5⟩
  obtain ⟨m2, o2, q21⟩ := n2a
  obtain ⟨m3, o3, q31, q32⟩ := n3a
  obtain ⟨m4, o4, q41, q42, q43⟩ := n4a
  obtain ⟨m5, o5, q51, q52, q53, q54⟩ := n5a
  refine ⟨_, rfl, p, _, dx, _, rfl, (by rw [upd_ne o5.symm]; exact upd_same), T.cl_Houses, T.n_Houses_idle_pages, (Nat.le_of_ble_eq_true rfl), ?_⟩
  have x1 := p1.symm
  refine q ⟨p, dx, d1, d2, d3, d4, d5, []⟩ _ rfl ⟨?_, ⟨[], ?_, fun s => rfl, Nat.le_refl _⟩, ⟨[], ?_, fun s => rfl, Nat.le_refl _⟩, ⟨[], ?_, Nat.le_refl _⟩, ⟨[], ?_, Nat.le_refl _, fun s z => (nomatch z)⟩, fun l z => (nomatch z), ⟨[], ?_, .nil, Nat.le_refl _⟩, ?_, fun s z => (nomatch z)⟩ (fun b o e hb => ?_) (fun b hb => ?_)
  · exact upd_same
  · show upd _ _ _ d1 = _
    rw [upd_ne x1, upd_ne q51.symm, upd_ne x1, upd_ne q41.symm, upd_ne x1, upd_ne q31.symm, upd_ne x1, upd_ne q21.symm, upd_ne x1, upd_same]
  · show upd _ _ _ d2 = _
    rw [upd_ne o2, upd_ne q52.symm, upd_ne o2, upd_ne q42.symm, upd_ne o2, upd_ne q32.symm, upd_ne o2, upd_same]
  · show upd _ _ _ d3 = _
    rw [upd_ne o3, upd_ne q53.symm, upd_ne o3, upd_ne q43.symm, upd_ne o3, upd_same]
  · show upd _ _ _ d4 = _
    rw [upd_ne o4, upd_ne q54.symm, upd_ne o4, upd_same]
  · show upd _ _ _ d5 = _
    rw [upd_ne o5, upd_same]
  · show [d1, d2, d3, d4, d5].Nodup
    simp only [List.nodup_cons, List.mem_cons, List.not_mem_nil, or_false, not_or, not_false_eq_true, List.nodup_nil, and_true]
    exact ⟨⟨q21.symm, q31.symm, q41.symm, q51.symm⟩, ⟨q32.symm, q42.symm, q52.symm⟩, ⟨q43.symm, q53.symm⟩, q54.symm⟩
  · have g : ∀ d, H d = none → b ≠ d := fun d n => ne_of_none e n
    rw [upd_ne hb, upd_ne (g _ m5), upd_ne hb, upd_ne (g _ m4), upd_ne hb, upd_ne (g _ m3), upd_ne hb, upd_ne (g _ m2), upd_ne hb, upd_ne (g _ n1)]
    exact e
  · have hb' : b ∈ [d1, d2, d3, d4, d5] := hb
    simp only [List.mem_cons, List.not_mem_nil, or_false] at hb'
    rcases hb' with rfl | rfl | rfl | rfl | rfl
    · exact n1
    · exact m2
    · exact m3
    · exact m4
    · exact m5
end
end CB
/-! CBW -/
set_option Elab.async false
set_option autoImplicit false
set_option linter.all false
set_option maxRecDepth 100000
set_option maxHeartbeats 2000000
/-! One object written: how the statements that write are read. -/
namespace CB
open PySem PySem.Spec PyProof.Rows L2
open Evl (Ev EvT EvA EvO)
theorem s_nil {D : Ends} {σ : L2.St} {H : Hp} (h : D.nx σ H) : tNext D σ H := h
/-- d has become o, all else stands -/
structure Wr (H H' : Hp) (d : Addr) (o : HO) : Prop where
  at_ : H' d = some o
  keep : ∀ b u, b ≠ d → H b = some u → H' b = some u
section
variable {H H1 H' : Hp} {d : Addr} {o : HO}
theorem Wr.of (s : Same H H1) : Wr H (upd H1 d o) d o := ⟨upd_same, fun b u hb e => by rw [upd_ne hb]; exact s b u e⟩
theorem Wr.of2 (s : Same H H1) (h1 : H' d = some o) (h2 : ∀ b, b ≠ d → H' b = H1 b) : Wr H H' d o := ⟨h1, fun b u hb e => by rw [h2 b hb]; exact s b u e⟩
theorem Wr.tup (x : Wr H H' d o) (n : ∀ ys, H d ≠ some (.tup ys)) : TupLe H H' := fun b ys e => x.keep b _ (fun z => n ys (z ▸ e)) e
theorem Wr.fresh (x : Wr H H' d o) {b : Addr} (h : H' b = none) : H b = none := by
  by_cases z : b = d
  · rw [z, x.at_] at h; cases h
  · cases e : H b with
    | none => rfl
    | some u => rw [x.keep b u z e] at h; cases h
theorem Wr.then (x : Wr H H1 d o) (s : Same H1 H') : Wr H H' d o := ⟨s _ _ x.at_, fun b u hb e => s _ _ (x.keep b u hb e)⟩
end
section
variable {K : PySem.W.Frag} {σ : L2.St} {H : Hp} {td ty tv to : TE} {t : TA} {d : Addr} {v : V} {D : Ends} {s : Str} {k : NestedKey} {ks : List NestedKey}
theorem s_dput {kvs : List (L2.Key × V)} (hv : Ev tv σ H v) (h : Ev td σ H (.ref d)) (hk : Ev ty σ H (.str s)) (hd : H d = some (.dK kvs)) (hl : kvs.length ≤ 2000) (q : ∀ H', Wr H H' d (.dK (putK kvs (Sum.inr s) v)) → D.nx σ H') : sDPut td ty tv D σ H :=
  hv H (Evl.Ex.refl _) _ fun H1 s1 => h H1 s1 _ fun H2 s2 => hk H2 (s1.tr s2) _ fun H3 s3 => ⟨d, _, rfl, DPut.k (k := Sum.inr s) (((s1.tr s2).tr s3) _ _ hd) (small hl), q _ (.of ((s1.tr s2).tr s3))⟩
theorem s_dputK {kvs : List (L2.Key × V)} (hv : EvK tv σ H k) (h : Ev td σ H (.ref d)) (hk : Ev ty σ H (.str s)) (hd : H d = some (.dK kvs)) (hl : kvs.length ≤ 2000) (q : ∀ v H', Wr H H' d (.dK (putK kvs (Sum.inr s) v)) → KAt H' v k → D.nx σ H') : sDPut td ty tv D σ H :=
  hv H (.rf _) _ fun v H1 s1 hv' => h H1 s1 _ fun H2 s2 => hk H2 (s1.tr s2) _ fun H3 s3 => ⟨d, _, rfl, DPut.k (k := Sum.inr s) (((s1.tr s2).tr s3) _ _ hd) (small hl), q v _ (.of ((s1.tr s2).tr s3)) (KAt.keep (fun b ys e => by
    rw [upd_ne (ne_of e (s1 _ _ hd) (by intro z; cases z))]; exact (Same.tr s2 s3) _ _ e) _ _ hv')⟩
theorem s_dputL {kvs : List (L2.Key × V)} (hv : EvLK tv σ H ks) (h : Ev td σ H (.ref d)) (hk : Ev ty σ H (.str s)) (hd : H d = some (.dK kvs)) (hl : kvs.length ≤ 2000)
    (q : ∀ p xs H', H p = none → p ≠ d → Wr H H' d (.dK (putK kvs (Sum.inr s) (.ref p))) → H' p = some (.lst xs) → KAll H' xs ks → D.nx σ H') : sDPut td ty tv D σ H :=
  hv H (.rf _) _ fun p xs H1 hp s1 h1 h2 => h H1 s1 _ fun H2 s2 => hk H2 (s1.tr s2) _ fun H3 s3 => by
    have hd3 := ((s1.tr s2).tr s3) _ _ hd
    have np : p ≠ d := (ne_of_none hd hp).symm
    refine ⟨d, _, rfl, DPut.k (k := Sum.inr s) hd3 (small hl), q p xs _ hp np (.of ((s1.tr s2).tr s3)) ?_ (KAll.keep (fun b ys e => ?_) _ _ h2)⟩
    · rw [upd_ne np]; exact (Same.tr s2 s3) _ _ h1
    · rw [upd_ne (ne_of e (s1 _ _ hd) (by intro z; cases z))]; exact (Same.tr s2 s3) _ _ e
theorem s_dpop {kvs : List (L2.Key × V)} (h : Ev td σ H (.ref d)) (hk : Ev ty σ H (.str s)) (hd : H d = some (.dK kvs)) (hv : (valV kvs (Sum.inr s)).isSome = true) (q : ∀ H', Wr H H' d (.dK (dropK kvs (Sum.inr s))) → D.nx σ H') : tDrop (tDPop1 td ty) D σ H :=
  h H (Evl.Ex.refl _) _ fun H1 s1 => ⟨d, rfl, .inl ⟨kvs, .inl (s1 _ _ hd)⟩, hk H1 s1 _ fun H2 s2 => by
    obtain ⟨v, hv⟩ := Option.isSome_iff_exists.mp hv
    exact ⟨kvs, Sum.inr s, v, (s1.tr s2) _ _ hd, rfl, hv, q _ (.of (s1.tr s2))⟩⟩
/-- l.append(e), e a datum -/
theorem s_app {xs : List V} (h : Ev to σ H (.ref d)) (he : EvKs t σ H [k]) (hd : H d = some (.lst xs)) (hl : xs.length ≤ 2000) (q : ∀ v H', Wr H H' d (.lst (xs ++ [v])) → KAt H' v k → D.nx σ H') : tDrop (tBM K "list" rAppend to t) D σ H :=
  h H (Evl.Ex.refl _) _ fun H1 s1 => ⟨.inl ⟨rfl, xs, .of (s1 _ _ hd)⟩, he H1 s1 _ fun vs H2 s2 hv => by
    cases hv with
    | @cons v _ _ _ h1 h2 =>
      cases h2
      have hd2 := (s1.tr s2) _ _ hd
      exact ⟨d, xs, v, rfl, rfl, hd2, small hl, q v _ (.of (s1.tr s2)) (KAt.keep (fun b ys e => by rw [upd_ne (ne_of e hd2 (by intro z; cases z))]; exact e) _ _ h1)⟩⟩
theorem ev_all {bs : List Bool} (h : Evl.EvL to σ H (bs.map V.bl)) : Ev (tCB (rAll K) (tCons to tNil)) σ H (.bl (bs.all id)) := fun H1 e Q q => h H1 e _ fun p H2 hp s2 h2 => ⟨p, bs, rfl, .of h2, q H2 s2⟩
theorem ev_any {bs : List Bool} (h : Evl.EvL to σ H (bs.map V.bl)) : Ev (tCB (rAny K) (tCons to tNil)) σ H (.bl (bs.any id)) := fun H1 e Q q => h H1 e _ fun p H2 hp s2 h2 => ⟨p, bs, rfl, .of h2, q H2 s2⟩
end
def rDIn (neg : Bool) : R2 := fun x y H Q => ∃ a o, y = .ref a ∧ DGet H a x o ∧ Q (.bl (if neg then !o.isSome else o.isSome)) H
section
variable {X : Cx}
theorem op_din (hu : X.A.units + 64 < cLine) : OpR X (compareOp .In) (rDIn false) := by
  intro pins s σ H x y v u Q I rx ry h
  obtain ⟨a, o, rfl, g, q⟩ := h
  obtain rfl : u = Value.ref a := ry
  exact d_in (by omega) I g rx fun s' I' => ⟨.bl _, H, I', rfl, q⟩
theorem op_dnin (hu : X.A.units + 64 < cLine) : OpR X (compareOp .NotIn) (rDIn true) := by
  intro pins s σ H x y v u Q I rx ry h
  obtain ⟨a, o, rfl, g, q⟩ := h
  obtain rfl : u = Value.ref a := ry
  exact d_notIn (by omega) I g rx fun s' I' => ⟨.bl _, H, I', rfl, q⟩
/-- k in d, the dict keyed by nested tuples -/
def rNIn (P : Program) (w : World) : R2 := fun y x H Q => ∃ d kvs k, x = .ref d ∧ DN P w H d kvs ∧ KAt H y (.tup k) ∧ (NestedKey.tup k).depth ≤ 8 ∧ Q (.bl (valV kvs (.tup k)).isSome) H
theorem op_nin (hu : X.A.units + 64 < cLine) : OpR X (compareOp .In) (rNIn X.prog X.w) := by
  intro pins s σ H y x iv u Q I ry rx h
  obtain ⟨d, kvs, k, rfl, dn, hk, hdp, q2⟩ := h
  obtain rfl : u = Value.ref d := rx
  obtain ⟨b, _, rfl, _⟩ := hk.tupRef
  obtain rfl : iv = Value.ref b := ry
  obtain ⟨xs, r, hm, hd⟩ := dn.of I
  refine wpAny_in_heap (dn_room hu) (key_is I hk hdp) hd hm ?_
  have e : (atKey xs (.tup k)).isSome = (valV kvs (.tup k)).isSome := by rw [(r.val (.tup k)).isSome_eq, Option.isSome_map]
  rw [e]
  exact ⟨.bl _, H, I.tok _, rfl, q2⟩
end
section
variable {σ : L2.St} {H : Hp} {ta tb : TE} {d : Addr} {ks : List NestedKey} {P : Program} {w : World}
theorem eb_din' {kvs : List (L2.Key × V)} {s : Str} {neg : Bool} (hk : Ev tb σ H (.str s)) (h : Ev ta σ H (.ref d)) (hd : H d = some (.dK kvs)) : Ev (tOp (rDIn neg) tb ta) σ H (.bl (if neg then !(valV kvs (Sum.inr s)).isSome else (valV kvs (Sum.inr s)).isSome)) := fun H1 e Q q =>
  hk H1 e _ fun H2 e2 => h H2 (e.tr e2) _ fun H3 e3 => ⟨d, _, rfl, DGet.k (k := Sum.inr s) (((e.tr e2).tr e3) _ _ hd), q H3 (e2.tr e3)⟩
theorem eb_nin' {kvs : List (NestedKey × V)} (hk : EvK tb σ H (.tup ks)) (h : Ev ta σ H (.ref d)) (dn : DN P w H d kvs) (hd : (NestedKey.tup ks).depth ≤ 8) : Ev (tOp (rNIn P w) tb ta) σ H (.bl (valV kvs (.tup ks)).isSome) := fun H1 e Q q =>
  hk H1 e _ fun u H2 e2 hu => h H2 (e.tr e2) _ fun H3 e3 => ⟨d, kvs, ks, rfl, dn.same ((e.tr e2).tr e3), hu.mono e3, hd, q H3 (e2.tr e3)⟩
end
end CB
/-! CBH2 -/
set_option Elab.async false
set_option autoImplicit false
set_option linter.all false
set_option maxRecDepth 100000
set_option maxHeartbeats 2000000
/-! Houses: can, come. -/
namespace CB
open PySem PySem.Spec PyProof.Rows L2
open Evl (Ev EvT EvA EvO)
theorem kind_house {p : Pg} (h : p.kind = "house") : ∃ d a l, p = .house d a l := by
  cases p <;> simp only [Pg.kind] at h <;> first
    | exact absurd h (by decide +kernel)
    | exact ⟨_, _, _, rfl⟩
theorem kind_part {p : Pg} (h : p.kind = "part") : ∃ d a b l, p = .part d a b l := by
  cases p <;> simp only [Pg.kind] at h <;> first
    | exact absurd h (by decide +kernel)
    | exact ⟨_, _, _, _, rfl⟩
theorem kind_join {p : Pg} (h : p.kind = "join") : ∃ d a b, p = .join d a b := by
  cases p <;> simp only [Pg.kind] at h <;> first
    | exact absurd h (by decide +kernel)
    | exact ⟨_, _, _, rfl⟩
theorem kind_home {p : Pg} (h : p.kind = "home") : ∃ d a l, p = .home d a l := by
  cases p <;> simp only [Pg.kind] at h <;> first
    | exact absurd h (by decide +kernel)
    | exact ⟨_, _, _, rfl⟩
theorem kind_mourn {p : Pg} (h : p.kind = "mourn") : ∃ d a m, p = .mourn d a m := by
  cases p <;> simp only [Pg.kind] at h <;> first
    | exact absurd h (by decide +kernel)
    | exact ⟨_, _, _, rfl⟩
theorem Pg.names_len (p : Pg) : p.names.length ≤ 2 := by cases p <;> exact Nat.le_of_ble_eq_true rfl
def memT (l : List Str) : NestedKey → Bool
  | .text s => decide (s ∈ l)
  | _ => false
theorem can_names (h : HS) (p : Pg) (h1 : p.kind ≠ "house") (h2 : p.kind ≠ "part") : h.can p = (p.names.map fun s => decide (s ∈ h.stands)).all id := by
  cases p <;> first
    | exact absurd rfl h1
    | exact absurd rfl h2
    | simp [HS.can, Pg.names]
theorem filt_true {α : Type} (l : List α) : l.filter (fun _ => true) = l := List.filter_eq_self.mpr fun _ _ => rfl
section
variable {P : Program} {w : World} {K : PySem.W.Frag} {mg : Str → Option Value} {base : Heap} (T : Tp K mg)
include T
def spHCan (C : Addr) : Sp := fun vs H Q _ => ∃ a h n v p, vs = [.ref a.x, v] ∧ HAt H C a h n ∧ KAt H v (Pg.key p) ∧ ∀ H', Same H H' → Q (.bl (h.can p)) H'
theorem ok_can : Ok P w K mg base 2 ("Houses", some "can") ["self", "page"] (spHCan (cH K)) := by
  have G := ok_names_of (P := P) (w := w) (base := base) T
  refine ok_of T.f_Houses_can c_Houses_can (fun _ _ _ _ _ _ us hl => match us, hl with | [_, _], _ => rfl) (fun vs H Q E ⟨a, h, n, v, p, e, _⟩ => by rw [e]; rfl) (fun cdv A outer s H vs Q E hr h => ?_)
  obtain ⟨a, h, n, v, p, rfl, A0, hv, q⟩ := h
  have hu := hr.units
  refine ⟨_, pss_cons (ps_if (pt_cmpR op_eq (pe_ix ix_tup (pv 1) pe_int (fun _ _ => rfl)) pe_str (nomark _)) (pss_one (ps_ret (pe_cmpR (op_dnin hu) (pe_ix ix_tup (pv 1) pe_int (fun _ _ => rfl)) (pe_fld (pv 0) rfl) (by with_unfolding_all rfl)))) pss_nil)
    (pss_cons (ps_if (pt_cmpR op_eq (pe_ix ix_tup (pv 1) pe_int (fun _ _ => rfl)) pe_str (nomark _)) (pss_one (ps_ret (pe_and (pe_cmpR (op_din hu) (pe_ix ix_tup (pv 1) pe_int (fun _ _ => rfl)) (pe_fld (pv 0) rfl) (by with_unfolding_all rfl)) (pe_one (pe_cmpR (op_dnin hu) (pe_ix ix_tup (pv 1) pe_int (fun _ _ => rfl)) (pe_fld (pv 0) rfl) (by with_unfolding_all rfl)))))) pss_nil)
    (pss_one (ps_ret (pe_callB (cr_all rfl) (by rfl) T.b_all PyProof.Rows.boot_all (pa_cons (pe_lc (own := [("name", 2)]) (g := gName 2) (te := tOp (rDIn false) (tVar 2) (tFld K (tVar 0) "homes")) rfl c_Houses_can.nd (pi_tup (pe_fn G (hr.mono (by decide)) (by rfl) T.g_names_of (pa_cons (pv 1) pa_nil))) (blkOk_by (N := ["self", "page", "name"]) (sc := defScope s_Houses_can) (by decide +kernel)) (fun _ _ _ _ _ => pg_name (i := 2) c_Houses_can.nd rfl (.inl rfl))
        (fun _ _ _ _ _ => pts_nil) (fun _ _ _ _ _ => pe_cmpR (op_din hu) (pv 2) (pe_fld (pv 0) (by rfl)) (by with_unfolding_all rfl))) pa_nil))))), ?_⟩
  have fH : ∀ {H' σ i}, Same H H' → σ[i]? = some (some (V.ref a.x)) → Ev (tFld K (tVar i) "homes") σ H' (.ref a.homes) := fun {H' σ i} s e => ev_fld (Evl.ev_var e) (s _ _ A0.ins) T.cl_Houses T.n_Houses_homes a.f1
  have fP : ∀ {H' σ i}, Same H H' → σ[i]? = some (some (V.ref a.x)) → Ev (tFld K (tVar i) "parents") σ H' (.ref a.parents) := fun {H' σ i} s e => ev_fld (Evl.ev_var e) (s _ _ A0.ins) T.cl_Houses T.n_Houses_parents a.f2
  obtain ⟨kh, hh1, hh2, hh3⟩ := A0.homes
  obtain ⟨kp, hp1, hp2, hp3⟩ := A0.parents
  refine Evl.s_if (et_T (eb_eqT (EvK.text (ek_ix (ek_var rfl hv) Evl.ev_c p.items0)) Evl.ev_c)) (fun hb H1 s1 => ?_) (fun hb H1 s1 => ?_)
  · obtain ⟨d, b, l, rfl⟩ := kind_house (of_decide_eq_true hb)
    refine Evl.s_ret (eb_din' (neg := true) (EvK.text (ek_ix (ek_var rfl (hv.mono s1)) Evl.ev_c (Pg.items2 _))) (fP s1 rfl) (s1 _ _ hp1)) fun H2 s2 => ?_
    rw [if_pos rfl, hp2]
    exact q H2 (s1.tr s2)
  · have hb1 := of_decide_eq_false hb
    refine Evl.s_if (et_T (eb_eqT (EvK.text (ek_ix (ek_var rfl (hv.mono s1)) Evl.ev_c p.items0)) Evl.ev_c)) (fun hb H2 s2 => ?_) (fun hb H2 s2 => ?_)
    · have s12 : Same H H2 := s1.tr s2
      obtain ⟨d, b, c, l, rfl⟩ := kind_part (of_decide_eq_true hb)
      refine Evl.s_ret (Evl.ev_andV (eb_din' (neg := false) (EvK.text (ek_ix (ek_var rfl (hv.mono s12)) Evl.ev_c (Pg.items2 _))) (fH s12 rfl) (s12 _ _ hh1)) fun _ => eb_din' (neg := true) (EvK.text (ek_ix (ek_var rfl (hv.mono s12)) Evl.ev_c (Pg.items3 _ rfl))) (fP s12 rfl) (s12 _ _ hp1)) fun H3 s3 => ?_
      rw [if_neg Bool.false_ne_true, if_pos rfl, hh2, hp2]
      exact q H3 (s12.tr s3)
    · have s12 : Same H H2 := s1.tr s2
      have hb2 := of_decide_eq_false hb
      have e := can_names h p hb1 hb2
      refine s_nil ?_
      dsimp only
      refine Evl.s_ret (ev_all (bs := p.names.map fun s => decide (s ∈ h.stands)) ?_) fun H3 s3 => by have z := q H3 (s12.tr s3); rw [e] at z; exact z
      have e2 : (p.names.map fun s => decide (s ∈ h.stands)).map V.bl = ((p.names.map NestedKey.text).filter fun _ => true).map fun k => V.bl (memT h.stands k) := by
        rw [filt_true, List.map_map, List.map_map]
        rfl
      rw [e2]
      refine el_lcV (src_tup (ek_call (eks_cons (ek_var rfl (hv.mono s12)) eks_nil) ⟨p, rfl, rfl⟩)) (by rw [List.length_map]; exact Nat.le_trans p.names_len (by decide)) fun k hk H4 x s4 hx => ?_
      obtain ⟨nm, _, rfl⟩ := List.mem_map.mp hk
      cases hx
      refine turn_name (k := .text nm) (.text nm) rfl et_yes fun _ => ?_
      refine Evl.ev_is (eb_din' (neg := false) (Evl.ev_var rfl) (fH (s12.tr s4) rfl) ((s12.tr s4) _ _ hh1)) ?_
      rw [if_neg Bool.false_ne_true, hh2]
      rfl
end
end CB
/-! CBH3 -/
set_option Elab.async false
set_option autoImplicit false
set_option linter.all false
set_option maxRecDepth 100000
set_option maxHeartbeats 2000000
/-! Houses: come, do, meet. -/
namespace CB
open PySem PySem.Spec PyProof.Rows L2
open Evl (Ev EvT EvA EvO)
section
variable {H H' : Hp} {C : Addr} {a : HAd} {h : HS} {n : Nat}
theorem HAt.some (A : HAt H C a h n) : ∀ b ∈ a.fp, ∃ o, H b = some o := by
  obtain ⟨h1, ⟨k2, a2, b2⟩, ⟨k3, a3, b3⟩, ⟨k4, a4, b4⟩, ⟨k5, a5, b5⟩, h6, ⟨x7, a7, b7, c7⟩, h8, h9⟩ := A
  intro b hb
  simp only [HAd.fp, List.mem_append, List.mem_cons, List.not_mem_nil, or_false] at hb
  rcases hb with (rfl | rfl | rfl | rfl | rfl) | hb
  · exact ⟨_, a2⟩
  · exact ⟨_, a3⟩
  · exact ⟨_, a4⟩
  · exact ⟨_, a5⟩
  · exact ⟨_, a7⟩
  · obtain ⟨xs, e2, _⟩ := h6 b hb
    exact ⟨_, e2⟩
theorem HAt.new (A : HAt H C a h n) {b : Addr} (e : H b = none) : b ∉ a.fp := fun hb => by
  obtain ⟨o, e2⟩ := A.some b hb
  rw [e] at e2; cases e2
theorem HAt.mem (a : HAd) : a.homes ∈ a.fp ∧ a.parents ∈ a.fp ∧ a.joined ∈ a.fp ∧ a.mourned ∈ a.fp ∧ a.idle ∈ a.fp ∧ ∀ l ∈ a.ml, l ∈ a.fp := by
  refine ⟨by simp [HAd.fp], by simp [HAd.fp], by simp [HAd.fp], by simp [HAd.fp], by simp [HAd.fp], fun l hl => by simp [HAd.fp, hl]⟩
theorem HAd.nes {a : HAd} (nd : a.fp.Nodup) : (a.homes ≠ a.parents ∧ a.homes ≠ a.joined ∧ a.homes ≠ a.mourned ∧ a.homes ≠ a.idle ∧ a.homes ∉ a.ml) ∧ (a.parents ≠ a.joined ∧ a.parents ≠ a.mourned ∧ a.parents ≠ a.idle ∧ a.parents ∉ a.ml) ∧
    (a.joined ≠ a.mourned ∧ a.joined ≠ a.idle ∧ a.joined ∉ a.ml) ∧ (a.mourned ≠ a.idle ∧ a.mourned ∉ a.ml) ∧ a.idle ∉ a.ml ∧ a.ml.Nodup := by
  simpa only [HAd.fp, List.cons_append, List.nil_append, List.nodup_cons, List.mem_cons, not_or] using nd
variable {K : PySem.W.Frag} {mg : Str → Option Value} {σ : L2.St} {i : Nat}
theorem HAt.e1 (A : HAt H (cH K) a h n) (T : Tp K mg) (e : σ[i]? = .some (.some (V.ref a.x))) : Ev (tFld K (tVar i) "homes") σ H (.ref a.homes) := ev_fld (Evl.ev_var e) A.ins T.cl_Houses T.n_Houses_homes a.f1
theorem HAt.e2 (A : HAt H (cH K) a h n) (T : Tp K mg) (e : σ[i]? = .some (.some (V.ref a.x))) : Ev (tFld K (tVar i) "parents") σ H (.ref a.parents) := ev_fld (Evl.ev_var e) A.ins T.cl_Houses T.n_Houses_parents a.f2
theorem HAt.e3 (A : HAt H (cH K) a h n) (T : Tp K mg) (e : σ[i]? = .some (.some (V.ref a.x))) : Ev (tFld K (tVar i) "joined") σ H (.ref a.joined) := ev_fld (Evl.ev_var e) A.ins T.cl_Houses T.n_Houses_joined a.f3
theorem HAt.e4 (A : HAt H (cH K) a h n) (T : Tp K mg) (e : σ[i]? = .some (.some (V.ref a.x))) : Ev (tFld K (tVar i) "mourned") σ H (.ref a.mourned) := ev_fld (Evl.ev_var e) A.ins T.cl_Houses T.n_Houses_mourned a.f4
theorem HAt.e5 (A : HAt H (cH K) a h n) (T : Tp K mg) (e : σ[i]? = .some (.some (V.ref a.x))) : Ev (tFld K (tVar i) "idle_pages") σ H (.ref a.idle) := ev_fld (Evl.ev_var e) A.ins T.cl_Houses T.n_Houses_idle_pages a.f5
/-- one of the object's own written -/
theorem HAt.write1 (A : HAt H C a h n) {d : Addr} {o : HO} (W : Wr H H' d o) (hd : d ∈ a.fp) : HStep H H' a a :=
  A.step (fun b u e hb => W.keep b u (fun z => hb (z ▸ hd)) e) (fun b hb => .inl hb) rfl
end
section
variable {P : Program} {w : World} {K : PySem.W.Frag} {mg : Str → Option Value} {base : Heap} (T : Tp K mg)
include T
def spHCome (C : Addr) : Sp := fun vs H Q _ => ∃ a h n s pa hm, vs = [.ref a.x, .str s, pa, hm] ∧ HAt H C a h n ∧ n ≤ 1000 ∧ ∀ a' H', HStep H H' a a' → HAt H' C a' (h.come s) (n + 1) → Q .non H'
theorem ok_come : Ok P w K mg base 1 ("Houses", some "come") ["self", "name", "parent", "home"] (spHCome (cH K)) := by
  refine ok_of T.f_Houses_come c_Houses_come (fun _ _ _ _ _ _ us hl => match us, hl with | [_, _, _, _], _ => rfl) (fun vs H Q E ⟨a, h, n, s, v, p, e, _⟩ => by rw [e]; rfl) (fun cdv A outer s0 H vs Q E hr h => ?_)
  obtain ⟨a, h, n, s, pa, hm, rfl, A0, hn, q⟩ := h
  have hu : _ + 1 < cLine := hu_of hr
  refine ⟨_, pss_cons (ps_dput hu (pe_fld (pv 0) rfl) (pv 1) (pv 2) rfl) (pss_cons (ps_dput hu (pe_fld (pv 0) rfl) (pv 1) (pv 3) rfl) (pss_one (ps_dput hu (pe_fld (pv 0) rfl) (pv 1) (pe_lst pa_nil) rfl))), ?_⟩
  obtain ⟨kh, hh1, hh2, hh3⟩ := A0.homes
  obtain ⟨kp, hp1, hp2, hp3⟩ := A0.parents
  obtain ⟨kj, hj1, hj2⟩ := A0.joined
  obtain ⟨km, hm1, hm2, hm3⟩ := A0.mourned
  obtain ⟨xi, hi1, hi2, hi3⟩ := A0.idle
  obtain ⟨⟨n12, n13, n14, n15, n1m⟩, ⟨n23, n24, n25, n2m⟩, ⟨n34, n35, n3m⟩, ⟨n45, n4m⟩, n5m, ndm⟩ := HAd.nes A0.nd
  obtain ⟨m1, m2, m3, m4, m5, m6⟩ := HAt.mem a
  have nx := A0.nx
  have x1 : a.x ≠ a.homes := fun z => nx (z ▸ m1)
  have x2 : a.x ≠ a.parents := fun z => nx (z ▸ m2)
  have x4 : a.x ≠ a.mourned := fun z => nx (z ▸ m4)
  refine s_dput (kvs := kp) (Evl.ev_var rfl) (A0.e2 T rfl) (Evl.ev_var rfl) hp1 (by omega) fun H1 W1 => ?_
  have i1 := W1.keep _ _ x2 A0.ins
  refine s_dput (kvs := kh) (Evl.ev_var rfl) (ev_fld (Evl.ev_var rfl) i1 T.cl_Houses T.n_Houses_homes a.f1) (Evl.ev_var rfl) (W1.keep _ _ n12 hh1) (by omega) fun H2 W2 => ?_
  have i2 := W2.keep _ _ x1 i1
  refine s_dputL (kvs := km) (ks := []) (el_lstK eks_nil) (ev_fld (Evl.ev_var rfl) i2 T.cl_Houses T.n_Houses_mourned a.f4) (Evl.ev_var rfl) (W2.keep _ _ n14.symm (W1.keep _ _ n24.symm hm1)) (by omega) fun l xs H3 nl nlm W3 hl hk => ?_
  cases hk
  have nl0 : H l = none := W1.fresh (W2.fresh nl)
  have lf := A0.new nl0
  have keep : ∀ b o, b ≠ a.parents → b ≠ a.homes → b ≠ a.mourned → H b = some o → H3 b = some o := fun b o z1 z2 z3 e => W3.keep b o z3 (W2.keep b o z2 (W1.keep b o z1 e))
  have ll : ∀ {d}, d ∈ a.fp → d ≠ l := fun {d} hd z => lf (z ▸ hd)
  refine q { a with ml := l :: a.ml } H3 (A0.step (fun b o e hb => keep b o (fun z => hb (z ▸ m2)) (fun z => hb (z ▸ m1)) (fun z => hb (z ▸ m4)) e) (fun b hb => ?_) rfl) ⟨keep _ _ x2 x1 x4 A0.ins, ⟨_, W3.keep _ _ n14 W2.at_, fun t => ?_, ?_⟩, ⟨_, W3.keep _ _ n24 (W2.keep _ _ n12.symm W1.at_), fun t => ?_, ?_⟩, ⟨kj, keep _ _ n23.symm n13.symm n34 hj1, by omega⟩, ⟨_, W3.at_, ?_, fun t ht => ?_⟩, fun b hb => ?_, ⟨xi, keep _ _ n25.symm n15.symm n45.symm hi1, ?_, by omega⟩, ?_, fun t ht => ?_⟩
  · have hb' : b ∈ [a.homes, a.parents, a.joined, a.mourned, a.idle] ++ (l :: a.ml) := hb
    simp only [List.mem_append, List.mem_cons, List.not_mem_nil, or_false] at hb'
    rcases hb' with hb' | rfl | hb'
    · exact .inl (by simp only [HAd.fp, List.mem_append, List.mem_cons, List.not_mem_nil, or_false]; exact .inl hb')
    · exact .inr nl0
    · exact .inl (m6 b hb')
  · rw [valV_put]
    show _ = decide (t ∈ h.stands ++ [s])
    by_cases e : t = s
    · subst e; simp
    · rw [if_neg (by simp [e]), hh2]; simp [e]
  · have := length_putK kh (Sum.inr s : L2.Key) hm; omega
  · rw [valV_put]
    show _ = decide (t ∈ h.came ++ [s])
    by_cases e : t = s
    · subst e; simp
    · rw [if_neg (by simp [e]), hp2]; simp [e]
  · have := length_putK kp (Sum.inr s : L2.Key) pa; omega
  · have := length_putK km (Sum.inr s : L2.Key) (V.ref l); omega
  · rw [valV_put]
    by_cases e : t = s
    · exact ⟨l, by rw [if_pos (by rw [e])], List.mem_cons_self⟩
    · rw [if_neg (by simp [e])]
      have ht' : t ∈ h.came ++ [s] := ht
      rw [List.mem_append, List.mem_singleton] at ht'
      obtain ⟨l', z1, z2⟩ := hm3 t (ht'.resolve_right e)
      exact ⟨l', z1, List.mem_cons_of_mem _ z2⟩
  · have hb' : b ∈ l :: a.ml := hb
    rcases List.mem_cons.mp hb' with rfl | hb'
    · exact ⟨[], hl, Nat.zero_le _⟩
    · obtain ⟨ys, e, z⟩ := A0.lists b hb'
      exact ⟨ys, keep b _ (fun z => n2m (z ▸ hb')) (fun z => n1m (z ▸ hb')) (fun z => n4m (z ▸ hb')) e, by omega⟩
  · refine KAll.keep (fun b ys e => ?_) _ _ hi2
    have nt := A0.ntup b
    exact keep b _ (fun z => nt (z ▸ m2) ys e) (fun z => nt (z ▸ m1) ys e) (fun z => nt (z ▸ m4) ys e) e
  · show ([a.homes, a.parents, a.joined, a.mourned, a.idle] ++ (l :: a.ml)).Nodup
    simp only [List.cons_append, List.nil_append, List.nodup_cons, List.mem_cons, not_or]
    exact ⟨⟨n12, n13, n14, n15, ll m1, n1m⟩, ⟨n23, n24, n25, ll m2, n2m⟩, ⟨n34, n35, ll m3, n3m⟩, ⟨n45, ll m4, n4m⟩, ⟨ll m5, n5m⟩, fun z => lf (m6 l z), ndm⟩
  · have ht' : t ∈ h.stands ++ [s] := ht
    show t ∈ h.came ++ [s]
    rw [List.mem_append] at ht' ⊢
    exact ht'.imp (A0.sub t) id

def spHDo (C : Addr) : Sp := fun vs H Q _ => ∃ a h n v p, vs = [.ref a.x, v] ∧ HAt H C a h n ∧ n ≤ 1000 ∧ KAt H v (Pg.key p) ∧ h.can p = true ∧ ∀ a' H', HStep H H' a a' → HAt H' C a' (h.act p) (n + 1) → Q .non H'
theorem ok_do : Ok P w K mg base 2 ("Houses", some "do") ["self", "page"] (spHDo (cH K)) := by
  have G := ok_come (P := P) (w := w) (base := base) T
  refine ok_of T.f_Houses_do c_Houses_do (fun _ _ _ _ _ _ us hl => match us, hl with | [_, _], _ => rfl) (fun vs H Q E ⟨a, h, n, v, p, e, _⟩ => by rw [e]; rfl) (fun cdv A outer s0 H vs Q E hr h => ?_)
  obtain ⟨a, h, n, v, p, rfl, A0, hn, hv, hc, q⟩ := h
  have hu : _ + 1 < cLine := hu_of hr
  have hr1 : Room 1 _ := hr
  refine ⟨_, pss_one (ps_if (pt_cmpR op_eq (pe_ix ix_tup (pv 1) pe_int (fun _ _ => rfl)) pe_str (nomark _))
      (pss_one (ps_expr (pe_mt G hr1 (pv 0) T.cl_Houses T.m_Houses_come (pa_cons (pe_ix ix_tup (pv 1) pe_int (fun _ _ => rfl)) (pa_cons pe_non (pa_cons (pe_ix ix_tup (pv 1) pe_int (fun _ _ => rfl)) pa_nil))))))
    (pss_one (ps_if (pt_cmpR op_eq (pe_ix ix_tup (pv 1) pe_int (fun _ _ => rfl)) pe_str (nomark _))
      (pss_one (ps_expr (pe_mt G hr1 (pv 0) T.cl_Houses T.m_Houses_come (pa_cons (pe_ix ix_tup (pv 1) pe_int (fun _ _ => rfl)) (pa_cons (pe_ix ix_tup (pv 1) pe_int (fun _ _ => rfl)) (pa_cons (pe_ix ix_tup (pv 1) pe_int (fun _ _ => rfl)) pa_nil))))))
    (pss_one (ps_if (pt_cmpR op_eq (pe_ix ix_tup (pv 1) pe_int (fun _ _ => rfl)) pe_str (nomark _))
      (pss_cons (ps_expr (pe_dpop1 (pe_fld (pv 0) rfl) (pe_ix ix_tup (pv 1) pe_int (fun _ _ => rfl)) ⟨rfl, rfl, rfl, rfl⟩)) (pss_one (ps_dput hu (pe_fld (pv 0) rfl) (pe_ix ix_tup (pv 1) pe_int (fun _ _ => rfl)) (pe_ix ix_tup (pv 1) pe_int (fun _ _ => rfl)) rfl)))
    (pss_one (ps_if (pt_cmpR op_eq (pe_ix ix_tup (pv 1) pe_int (fun _ _ => rfl)) pe_str (nomark _))
      (pss_one (ps_dput hu (pe_fld (pv 0) rfl) (pe_ix ix_tup (pv 1) pe_int (fun _ _ => rfl)) (pe_ix ix_tup (pv 1) pe_int (fun _ _ => rfl)) rfl))
    (pss_one (ps_if (pt_cmpR op_eq (pe_ix ix_tup (pv 1) pe_int (fun _ _ => rfl)) pe_str (nomark _))
      (pss_one (ps_expr (pe_bm PySem.F.plainAttrs_list PySem.F.slot_list_append PySem.F.type_list_append mt_append (pe_dget hu (pe_fld (pv 0) rfl) (pe_ix ix_tup (pv 1) pe_int (fun _ _ => rfl)) (fun _ _ => rfl))
        (pa_cons (pe_tup (pa_cons (pe_ix ix_tup (pv 1) pe_int (fun _ _ => rfl)) (pa_cons (pe_op op_add (pe_ix ix_tup (pv 1) pe_int (fun _ _ => rfl)) (pe_ix ix_tup (pv 1) pe_int (fun _ _ => rfl))) pa_nil))) pa_nil))))
      pss_nil))))))))), ?_⟩
  have kd : ∀ {H1 : Hp} {s : Str}, Same H H1 → EvT (tTest (tOp rEq (tOp (rIxT K) (tVar 1) (tC (.int 0))) (tC (.str s)))) (L2.start ["self", "page"] [V.ref a.x, v]) H1 (decide (p.kind = s)) := fun {H1 s} sm => et_T (eb_eqT (EvK.text (ek_ix (ek_var rfl (hv.mono sm)) Evl.ev_c p.items0)) Evl.ev_c)
  have it : ∀ {H1 : Hp} {i : Int} {k : NestedKey}, Same H H1 → atI p.items i = some k → EvK (tOp (rIxT K) (tVar 1) (tC (.int i))) (L2.start ["self", "page"] [V.ref a.x, v]) H1 k := fun {H1 i k} sm e => ek_ix (ek_var rfl (hv.mono sm)) Evl.ev_c e
  obtain ⟨kh, hh1, hh2, hh3⟩ := A0.homes
  obtain ⟨kp, hp1, hp2, hp3⟩ := A0.parents
  obtain ⟨kj, hj1, hj2⟩ := A0.joined
  obtain ⟨km, hm1, hm2, hm3⟩ := A0.mourned
  obtain ⟨xi, hi1, hi2, hi3⟩ := A0.idle
  obtain ⟨⟨n12, n13, n14, n15, n1m⟩, ⟨n23, n24, n25, n2m⟩, ⟨n34, n35, n3m⟩, ⟨n45, n4m⟩, n5m, ndm⟩ := HAd.nes A0.nd
  obtain ⟨m1, m2, m3, m4, m5, m6⟩ := HAt.mem a
  have nx := A0.nx
  have x1 : a.x ≠ a.homes := fun z => nx (z ▸ m1)
  have x3 : a.x ≠ a.joined := fun z => nx (z ▸ m3)
  refine Evl.s_if (kd (.rf _)) (fun hb H1 s1 => ?_) (fun hb1 H1 s1 => ?_)
  · obtain ⟨d, b, l, rfl⟩ := kind_house (of_decide_eq_true hb)
    have A1 := A0.same s1
    refine me_K (Evl.ev_var rfl) A1.ins a.m2 (eks_cons (it s1 (Pg.items2 _)) (eks_cons ek_non (eks_cons (it s1 rfl) eks_nil))) fun vs H2 s2 hk => ?_
    cases hk with
    | cons g1 g2 =>
      cases g2 with
      | cons g2 g3 =>
        cases g3 with
        | cons g3 g4 =>
          cases g4; cases g1; cases g2
          exact ⟨a, h, n, b, _, _, rfl, A1.same s2, hn, fun a' H' st A' => q a' H' ((HStep.same (s1.tr s2) a).trans st) A'⟩
  refine Evl.s_if (kd s1) (fun hb H2 s2 => ?_) (fun hb2 H2 s2 => ?_)
  · have s12 : Same H H2 := s1.tr s2
    obtain ⟨d, b, c, l, rfl⟩ := kind_part (of_decide_eq_true hb)
    have A1 := A0.same s12
    refine me_K (Evl.ev_var rfl) A1.ins a.m2 (eks_cons (it s12 (Pg.items3 _ rfl)) (eks_cons (it s12 (Pg.items2 _)) (eks_cons (it s12 rfl) eks_nil))) fun vs H3 s3 hk => ?_
    cases hk with
    | cons g1 g2 =>
      cases g2 with
      | cons g2 g3 =>
        cases g3 with
        | cons g3 g4 =>
          cases g4; cases g1; cases g2
          exact ⟨a, h, n, c, _, _, rfl, A1.same s3, hn, fun a' H' st A' => q a' H' ((HStep.same (s12.tr s3) a).trans st) A'⟩
  have s12 : Same H H2 := s1.tr s2
  refine Evl.s_if (kd s12) (fun hb H3 s3 => ?_) (fun hb3 H3 s3 => ?_)
  · have s13 : Same H H3 := s12.tr s3
    obtain ⟨d, b, c, rfl⟩ := kind_join (of_decide_eq_true hb)
    have A1 := A0.same s13
    have hcs : b ∈ h.stands ∧ c ∈ h.stands := by simpa [HS.can] using hc
    refine s_dpop (s := c) (A1.e1 T rfl) (EvK.text (it s13 (Pg.items3 _ rfl))) (s13 _ _ hh1) (by rw [hh2]; exact decide_eq_true hcs.2) fun H4 W4 => ?_
    have hv4 : KAt H4 v (Pg.key (.join d b c)) := KAt.keep (W4.tup fun ys e => A1.ntup _ m1 ys e) _ _ (hv.mono s13)
    have i4 := W4.keep _ _ x1 A1.ins
    refine s_dputK (kvs := kj) (s := c) (k := .text b) (ek_ix (ek_var rfl hv4) Evl.ev_c (Pg.items2 _)) (ev_fld (Evl.ev_var rfl) i4 T.cl_Houses T.n_Houses_joined a.f3) (EvK.text (ek_ix (ek_var rfl hv4) Evl.ev_c (Pg.items3 _ rfl))) (W4.keep _ _ n13.symm (s13 _ _ hj1)) (by omega) fun v5 H5 W5 _ => ?_
    have keep : ∀ b o, b ≠ a.homes → b ≠ a.joined → H b = some o → H5 b = some o := fun b o z1 z2 e => W5.keep b o z2 (W4.keep b o z1 (s13 _ _ e))
    refine q a H5 (A0.step (fun b o e hb => keep b o (fun z => hb (z ▸ m1)) (fun z => hb (z ▸ m3)) e) (fun b hb => .inl hb) rfl) ⟨keep _ _ x1 x3 A0.ins, ⟨_, W5.keep _ _ n13 W4.at_, fun t => ?_, ?_⟩, ⟨kp, keep _ _ n12.symm n23 hp1, hp2, by omega⟩, ⟨_, W5.at_, ?_⟩, ⟨km, keep _ _ n14.symm n34.symm hm1, by omega, hm3⟩, fun b hb => ?_, ⟨xi, keep _ _ n15.symm n35.symm hi1, ?_, by omega⟩, A0.nd, fun t ht => ?_⟩
    · rw [valV_drop]
      show _ = decide (t ∈ h.stands.filter fun n => decide (n ≠ c))
      by_cases e : t = c
      · subst e; simp
      · rw [if_neg (by simp [e]), hh2]; simp [e]
    · have := dropK_le kh (Sum.inr c : L2.Key); omega
    · have := length_putK kj (Sum.inr c : L2.Key) v5; omega
    · obtain ⟨ys, e, z⟩ := A0.lists b hb
      exact ⟨ys, keep b _ (fun z => n1m (z ▸ hb)) (fun z => n3m (z ▸ hb)) e, by omega⟩
    · refine KAll.keep (fun b ys e => ?_) _ _ hi2
      have nt := A0.ntup b
      exact keep b _ (fun z => nt (z ▸ m1) ys e) (fun z => nt (z ▸ m3) ys e) e
    · exact A0.sub t (List.mem_filter.mp ht).1
  have s13 : Same H H3 := s12.tr s3
  refine Evl.s_if (kd s13) (fun hb H4 s4 => ?_) (fun hb4 H4 s4 => ?_)
  · have s14 : Same H H4 := s13.tr s4
    obtain ⟨d, b, l, rfl⟩ := kind_home (of_decide_eq_true hb)
    have A1 := A0.same s14
    have hcs : b ∈ h.stands := by simpa [HS.can] using hc
    refine s_dputK (kvs := kh) (s := b) (it s14 (k := .tup (nums l)) rfl) (A1.e1 T rfl) (EvK.text (it s14 (Pg.items2 _))) (s14 _ _ hh1) (by omega) fun v5 H5 W5 _ => ?_
    have keep : ∀ b o, b ≠ a.homes → H b = some o → H5 b = some o := fun b o z1 e => W5.keep b o z1 (s14 _ _ e)
    refine q a H5 (A0.step (fun b o e hb => keep b o (fun z => hb (z ▸ m1)) e) (fun b hb => .inl hb) rfl) ⟨keep _ _ x1 A0.ins, ⟨_, W5.at_, fun t => ?_, ?_⟩, ⟨kp, keep _ _ n12.symm hp1, hp2, by omega⟩, ⟨kj, keep _ _ n13.symm hj1, by omega⟩, ⟨km, keep _ _ n14.symm hm1, by omega, hm3⟩, fun b hb => ?_, ⟨xi, keep _ _ n15.symm hi1, ?_, by omega⟩, A0.nd, A0.sub⟩
    · rw [valV_put]
      by_cases e : t = b
      · subst e
        rw [if_pos rfl]
        show true = decide (t ∈ h.stands)
        exact (decide_eq_true hcs).symm
      · rw [if_neg (by simp [e]), hh2]; rfl
    · have := length_putK kh (Sum.inr b : L2.Key) v5; omega
    · obtain ⟨ys, e, z⟩ := A0.lists b hb
      exact ⟨ys, keep b _ (fun z => n1m (z ▸ hb)) e, by omega⟩
    · exact KAll.keep (fun b ys e => keep b _ (fun z => A0.ntup b (z ▸ m1) ys e) e) _ _ hi2
  have s14 : Same H H4 := s13.tr s4
  refine Evl.s_if (kd s14) (fun hb H5 s5 => ?_) (fun hb5 H5 s5 => ?_)
  · have s15 : Same H H5 := s14.tr s5
    obtain ⟨d, b, m, rfl⟩ := kind_mourn (of_decide_eq_true hb)
    have A1 := A0.same s15
    have hcs : b ∈ h.stands := by simpa [HS.can] using hc
    obtain ⟨l, z1, z2⟩ := hm3 b (A0.sub b hcs)
    obtain ⟨ys, y1, y2⟩ := A0.lists l z2
    refine s_app (k := .tup [.num d, .num (d + m)]) (xs := ys) (ev_dget (A1.e4 T rfl) (EvK.text (it s15 (Pg.items2 _))) (s15 _ _ hm1) z1) (eks_cons (ek_tup (eks_cons (it s15 (Pg.items1 _)) (eks_cons (ek_num (Evl.ev_op (EvK.num (it s15 (Pg.items1 _))) (EvK.num (it s15 rfl)) Evl.rv_I0)) eks_nil))) eks_nil) (s15 _ _ y1) (by omega) fun v6 H6 W6 _ => ?_
    have lf := m6 l z2
    have keep : ∀ b o, b ≠ l → H b = some o → H6 b = some o := fun b o z1 e => W6.keep b o z1 (s15 _ _ e)
    have e1 : a.homes ≠ l := fun z => n1m (z ▸ z2)
    have e2 : a.parents ≠ l := fun z => n2m (z ▸ z2)
    have e3 : a.joined ≠ l := fun z => n3m (z ▸ z2)
    have e4 : a.mourned ≠ l := fun z => n4m (z ▸ z2)
    have e5 : a.idle ≠ l := fun z => n5m (z ▸ z2)
    refine q a H6 (A0.step (fun b o e hb => keep b o (fun z => hb (z ▸ lf)) e) (fun b hb => .inl hb) rfl) ⟨keep _ _ (fun z => nx (z ▸ lf)) A0.ins, ⟨kh, keep _ _ e1 hh1, hh2, by omega⟩, ⟨kp, keep _ _ e2 hp1, hp2, by omega⟩, ⟨kj, keep _ _ e3 hj1, by omega⟩, ⟨km, keep _ _ e4 hm1, by omega, hm3⟩, fun b' hb => ?_, ⟨xi, keep _ _ e5 hi1, ?_, by omega⟩, A0.nd, A0.sub⟩
    · by_cases z : b' = l
      · subst z
        exact ⟨_, W6.at_, by rw [List.length_append, List.length_singleton]; omega⟩
      · obtain ⟨us, e, z3⟩ := A0.lists b' hb
        exact ⟨us, keep b' _ z e, by omega⟩
    · exact KAll.keep (fun b ys e => keep b _ (fun z => A0.ntup b (z ▸ lf) ys e) e) _ _ hi2
  · have s15 : Same H H5 := s14.tr s5
    refine s_nil ?_
    dsimp only
    have e : h.act p = h := by
      have g1 := of_decide_eq_false hb1
      have g2 := of_decide_eq_false hb2
      have g3 := of_decide_eq_false hb3
      cases p <;> first
        | rfl
        | exact absurd rfl g1
        | exact absurd rfl g2
        | exact absurd rfl g3
    exact q a H5 (HStep.same s15 a) (by rw [e]; exact (A0.same s15).more (Nat.le_succ n))
end
end CB
/-! CBH4 -/
set_option Elab.async false
set_option autoImplicit false
set_option linter.all false
set_option maxRecDepth 100000
set_option maxHeartbeats 2000000
/-! Houses: meet, behind, home_of, idle. -/
namespace CB
open PySem PySem.Spec PyProof.Rows L2
open Evl (Ev EvT EvA EvO)
section
variable {X : Cx} {k : Nat} {cls x : Str} {ps : List Str} {sp : Sp} {p pos : Pos} {e : Expr} {es : List Expr} {t : TA}
theorem pe_mk0 (O : Ok X.prog X.w X.K X.mg X.base k (cls, some "__init__") ps sp) (M : L2.Mk X.K (He.ga X.K cls) (He.fAd X.K (cls, some "__init__"))) (hr : Room (k + 1) X.A) (hg : Gl X x) (hm : X.mg x = some (.ref (He.ga X.K cls))) (hdb : (x == ("__debug__" : Str)) = false := by decide) :
    PE X (.Call (.Name x p) [] [] pos) (tMake (He.ga X.K cls) sp [] E0 tNil) := by
  obtain ⟨⟨fd, b, F⟩, kp⟩ := O
  exact pe_make0 M F hr hg hm b .nil pass0 hdb
theorem pe_mk (O : Ok X.prog X.w X.K X.mg X.base k (cls, some "__init__") ps sp) (M : L2.Mk X.K (He.ga X.K cls) (He.fAd X.K (cls, some "__init__"))) (hr : Room (k + 1) X.A) (hg : Gl X x) (hm : X.mg x = some (.ref (He.ga X.K cls))) (ha : PA X (e :: es) t) (hdb : (x == ("__debug__" : Str)) = false := by decide)
    (he : starEach (e :: es) X.env = (false, eval e X.env) :: starEach es X.env := by rfl) (hpl : (backTo pos (starEach es X.env)).any (·.1) = false := by rfl) : PE X (.Call (.Name x p) (e :: es) [] pos) (tMake (He.ga X.K cls) sp [] E0 t) := by
  obtain ⟨⟨fd, b, F⟩, kp⟩ := O
  exact pe_make M F hr hg hm b .nil pass0 ha hdb he hpl
end
section
variable {P : Program} {w : World} {K : PySem.W.Frag} {mg : Str → Option Value} {base : Heap} (T : Tp K mg)
include T
def spHMeet (C : Addr) : Sp := fun vs H Q _ => ∃ a h n v p, vs = [.ref a.x, v] ∧ HAt H C a h n ∧ n ≤ 1000 ∧ KAt H v (Pg.key p) ∧ ∀ a' H', HStep H H' a a' → HAt H' C a' (h.meet p) (n + 1) → Q .non H'
theorem ok_meet : Ok P w K mg base 3 ("Houses", some "meet") ["self", "page"] (spHMeet (cH K)) := by
  have G1 := ok_can (P := P) (w := w) (base := base) T
  have G2 := ok_do (P := P) (w := w) (base := base) T
  refine ok_of T.f_Houses_meet c_Houses_meet (fun _ _ _ _ _ _ us hl => match us, hl with | [_, _], _ => rfl) (fun vs H Q E ⟨a, h, n, v, p, e, _⟩ => by rw [e]; rfl) (fun cdv A outer s0 H vs Q E hr h => ?_)
  obtain ⟨a, h, n, v, p, rfl, A0, hn, hv, q⟩ := h
  have hr2 : Room 2 _ := hr
  refine ⟨_, pss_one (ps_if (pt_val (pe_mt G1 hr2 (pv 0) T.cl_Houses T.m_Houses_can (pa_cons (pv 1) pa_nil)))
    (pss_one (ps_expr (pe_mt G2 hr2 (pv 0) T.cl_Houses T.m_Houses_do (pa_cons (pv 1) pa_nil))))
    (pss_one (ps_expr (pe_bm PySem.F.plainAttrs_list PySem.F.slot_list_append PySem.F.type_list_append mt_append (pe_fld (pv 0) rfl) (pa_cons (pv 1) pa_nil))))), ?_⟩
  have ev : Ev (tMeth (cH K) "can" (spHCan (cH K)) [] E0 (tVar 0) (tCons (tVar 1) tNil)) (L2.start ["self", "page"] [V.ref a.x, v]) H (.bl (h.can p)) := fun H1 e Q1 q1 =>
    me_V (Evl.ev_var rfl) (A0.same e).ins a.m1 (Evl.ea_cons (Evl.ev_var rfl) Evl.ea_nil) fun H2 s2 => ⟨a, h, n, v, p, rfl, A0.same (e.tr s2), hv.mono (e.tr s2), fun H' s' => q1 H' (s2.tr s')⟩
  refine Evl.s_if (Evl.et_B ev) (fun hb H1 s1 => ?_) (fun hb H1 s1 => ?_)
  · have A1 := A0.same s1
    refine me_V (Evl.ev_var rfl) A1.ins a.m3 (Evl.ea_cons (Evl.ev_var rfl) Evl.ea_nil) fun H2 s2 => ⟨a, h, n, v, p, rfl, A1.same s2, hn, hv.mono (s1.tr s2), hb, fun a' H' st A' => q a' H' ((HStep.same (s1.tr s2) a).trans st) ?_⟩
    unfold HS.meet
    rw [if_pos hb]
    exact A'
  · have A1 := A0.same s1
    obtain ⟨kh, hh1, hh2, hh3⟩ := A0.homes
    obtain ⟨kp, hp1, hp2, hp3⟩ := A0.parents
    obtain ⟨kj, hj1, hj2⟩ := A0.joined
    obtain ⟨km, hm1, hm2, hm3⟩ := A0.mourned
    obtain ⟨xi, hi1, hi2, hi3⟩ := A0.idle
    obtain ⟨⟨n12, n13, n14, n15, n1m⟩, ⟨n23, n24, n25, n2m⟩, ⟨n34, n35, n3m⟩, ⟨n45, n4m⟩, n5m, ndm⟩ := HAd.nes A0.nd
    obtain ⟨m1, m2, m3, m4, m5, m6⟩ := HAt.mem a
    refine s_app (xs := xi) (A1.e5 T rfl) (eks_cons (ek_var rfl (hv.mono s1)) eks_nil) (s1 _ _ hi1) (by omega) fun v2 H2 W2 hk2 => ?_
    have keep : ∀ b o, b ≠ a.idle → H b = some o → H2 b = some o := fun b o z e => W2.keep b o z (s1 _ _ e)
    refine q a H2 (A0.step (fun b o e hb => keep b o (fun z => hb (z ▸ m5)) e) (fun b hb => .inl hb) rfl) ?_
    unfold HS.meet
    rw [if_neg (by rw [hb]; decide)]
    refine ⟨keep _ _ (fun z => A0.nx (z ▸ m5)) A0.ins, ⟨kh, keep _ _ n15 hh1, hh2, by omega⟩, ⟨kp, keep _ _ n25 hp1, hp2, by omega⟩, ⟨kj, keep _ _ n35 hj1, by omega⟩, ⟨km, keep _ _ n45 hm1, by omega, hm3⟩, fun l hl => ?_, ⟨_, W2.at_, ?_, by rw [List.length_append, List.length_singleton]; omega⟩, A0.nd, A0.sub⟩
    · obtain ⟨ys, e, z⟩ := A0.lists l hl
      exact ⟨ys, keep l _ (fun z => n5m (z ▸ hl)) e, by omega⟩
    · show KAll H2 (xi ++ [v2]) ((h.idle ++ [p]).map Pg.key)
      rw [List.map_append]
      exact kall_snoc (KAll.keep (fun b ys e => keep b _ (fun z => A0.ntup b (z ▸ m5) ys e) e) _ _ hi2) hk2
def spBehind (C : Addr) : Sp := fun vs H Q _ => ∃ ps d, (ps : List Pg).length ≤ 900 ∧ KAll H vs [.tup (pgs ps), .num d] ∧ ∀ a H' n, Same H H' → HAt H' C a ((ps.filter fun p => decide (p.day ≤ d)).foldl HS.meet HS.start) n → Q (.ref a.x) H'
theorem ok_behind : Ok P w K mg base 4 ("houses_behind", none) ["book", "day"] (spBehind (cH K)) := by
  have G1 := ok_hinit (P := P) (w := w) (base := base) T
  have G2 := ok_up_to (P := P) (w := w) (base := base) T
  have G3 := ok_meet (P := P) (w := w) (base := base) T
  refine ok_of T.f_houses_behind c_houses_behind (fun _ _ _ _ _ _ us hl => match us, hl with | [_, _], _ => rfl) (fun vs H Q E ⟨ps, d, _, e, _⟩ => by rw [e.length]; rfl) (fun cdv A outer s0 H vs Q E hr h => ?_)
  obtain ⟨ps, d, hl, hs, q⟩ := h
  have hr3 : Room 3 _ := hr
  cases hs with
  | @cons b _ _ _ h1 h2 =>
  cases h2 with
  | @cons dv _ _ _ h2 h3 =>
  cases h3
  cases h2
  refine ⟨_, pss_cons (ps_set (i := 2) c_houses_behind.nd rfl (.inl rfl) (pe_mk0 G1 T.mk_Houses (hr3.mono (by decide)) (by rfl) T.g_Houses))
    (pss_cons (ps_for PassesOwn.never rfl (pi_tup (pe_fn G2 (hr3.mono (by decide)) (by rfl) T.g_up_to (pa_cons (pv 0) (pa_cons (pv 1) pa_nil)))) (pg_name (i := 3) c_houses_behind.nd rfl (.inl rfl)) (pss_one (ps_expr (pe_mt G3 hr3 (pv 2) T.cl_Houses T.m_Houses_meet (pa_cons (pv 3) pa_nil)))))
    (pss_one (ps_ret (pv 2)))), ?_⟩
  intro x dx nx ndx nex
  have s0 : Same H (upd (upd H dx (.own x)) x (.ins (cH K) dx [])) := (Same.up ndx).up2 nx
  refine ⟨x, dx, rfl, upd_same, fun a H1 ax A1 k1 f1 => ⟨rfl, ?_⟩⟩
  subst ax
  have s1 : Same H H1 := fun b' o e => k1 b' o (s0 b' o e) (ne_of_none e nx)
  have fr : ∀ b' ∈ a.fp, H b' = none := fun b' hb => s0.no (f1 b' hb)
  let qs := ps.filter fun p => decide (p.day ≤ d)
  have ql : qs.length ≤ ps.length := List.length_filter_le _ _
  have ev : EvK (tCall (spF fUpTo) [] E0 (tCons (tVar 0) (tCons (tVar 1) tNil))) ((L2.start ["book", "day", "found", "page"] [b, V.int d]).set 2 (some (V.ref a.x))) H1 (.tup (pgs qs)) :=
    ek_call (eks_cons (ek_var rfl (h1.mono s1)) (eks_cons (ek_num (Evl.ev_var rfl)) eks_nil)) ⟨ps, d, by omega, rfl, rfl⟩
  refine ev H1 (.rf _) _ fun v H2 s2 hv => ?_
  obtain ⟨ba, xs, rfl, g1, g2⟩ := hv.tupRef
  have lx : xs.length = qs.length := by rw [g2.length]; unfold pgs; rw [List.length_map]
  refine ⟨ba, rfl, ⟨xs, .of g1⟩, for_tup (K := K) (a := ba) (xs := xs) (fun i σ H3 => ∃ (a' : HAd) (v : Option V), σ = [some b, some (V.int d), some (V.ref a'.x), v] ∧ Same H H3 ∧ TupLe H2 H3 ∧ HAt H3 (cH K) a' ((qs.take i).foldl HS.meet HS.start) i ∧ (∀ b' ∈ a'.fp, H b' = none) ∧ H a'.x = none)
    ⟨a, none, rfl, s1.tr s2, .refl _, A1.same s2, fr, nx⟩ (fun i σ H3 _ ⟨_, _, _, _, t, _⟩ => .of (t _ _ g1)) ?_ ?_⟩
  · rintro i y σ H3 hi ⟨a', v, rfl, s3, t3, A3, f3, nx3⟩
    have li : i < qs.length := by rw [← lx]; exact (List.getElem?_eq_some_iff.mp hi).1
    obtain ⟨k, hk, hy⟩ := g2.getV hi
    obtain ⟨p, hp, rfl⟩ : ∃ p, qs[i]? = some p ∧ p.key = k := by
      unfold pgs at hk
      rw [List.getElem?_map] at hk
      exact Option.map_eq_some_iff.mp hk
    have ht : qs.take (i + 1) = qs.take i ++ [p] := by rw [List.take_add_one, hp]; simp
    refine me_V (Evl.ev_var rfl) A3.ins a'.m4 (Evl.ea_cons (Evl.ev_var rfl) Evl.ea_nil) fun H4 s4 => ⟨a', _, i, y, p, rfl, A3.same s4, by omega, (KAt.keep t3 _ _ hy).mono s4, fun a2 H5 st A5 => ?_⟩
    refine ⟨a2, some y, by rw [st.x]; rfl, fun b' o e => st.keep b' o (s4 _ _ (s3 _ _ e)) fun hb => ?_, (t3.trans (.of_same s4)).trans st.tup, by rw [ht, List.foldl_append]; exact A5, fun b' hb => ?_, by rw [st.x]; exact nx3⟩
    · rw [f3 b' hb] at e; cases e
    · rcases st.fp b' hb with z | z
      · exact f3 b' z
      · exact s3.no (s4.no z)
  · rintro σ H3 ⟨a', v, rfl, s3, t3, A3, f3, nx3⟩
    rw [lx, List.take_length] at A3
    exact Evl.s_ret (Evl.ev_var rfl) fun H4 s4 => q a' H4 qs.length (s3.tr s4) (A3.same s4)
def fIdle (ks : List NestedKey) (ls : List NestedKey) : Prop := ∃ (ps : List Pg) (d : Int), ps.length ≤ 900 ∧ ks = [.tup (pgs ps), .num d] ∧ ls = pgs (idleOf (ps.filter fun p => decide (p.day ≤ d)))
theorem ok_idle : Ok P w K mg base 5 ("idle", none) ["book", "day"] (spL fIdle) := by
  have G := ok_behind (P := P) (w := w) (base := base) T
  refine ok_of T.f_idle c_idle (fun _ _ _ _ _ _ us hl => match us, hl with | [_, _], _ => rfl) (len_L fun ks k ⟨p, d, _, e, _⟩ => by rw [e]; rfl) (fun cdv A outer s0 H vs Q E hr h => ?_)
  obtain ⟨ks, ls, ⟨ps, d, hl, rfl, rfl⟩, hs, q⟩ := h
  have hr4 : Room 4 _ := hr
  cases hs with
  | @cons b _ _ _ h1 h2 =>
  cases h2 with
  | @cons dv _ _ _ h2 h3 =>
  cases h3
  cases h2
  refine ⟨_, pss_one (ps_ret (pe_callTy call_list_of (by rfl) T.b_list PyProof.Rows.boot_list (pa_cons (pe_fld (pe_fn G hr4 (by rfl) T.g_houses_behind (pa_cons (pv 0) (pa_cons (pv 1) pa_nil))) rfl) pa_nil))), ?_⟩
  refine ⟨_, rfl, _, rfl, ?_⟩
  refine ⟨ps, d, hl, .cons h1 (.cons (.num d) .nil), fun a H1 n s1 A1 => ?_⟩
  obtain ⟨xi, hi1, hi2, hi3⟩ := A1.idle
  refine ⟨a.x, _, _, _, _, rfl, A1.ins, T.cl_Houses, T.n_Houses_idle_pages, a.f5, ?_⟩
  refine ⟨_, xi, rfl, .inl (.of hi1), fun l hl => q l xi _ (s1.no hl) (s1.tr (.up hl)) upd_same (hi2.mono (.up hl))⟩
def spHome : Sp := fun vs H Q _ => ∃ ps d s, (ps : List Pg).length ≤ 900 ∧ KAll H vs [.tup (pgs ps), .num d, .text s] ∧ s ∈ ((ps.filter fun p => decide (p.day ≤ d)).foldl HS.meet HS.start).stands ∧ ∀ v H', Same H H' → Q v H'
def spAsk (C : Addr) : Sp := fun vs H Q _ => ∃ a h n s, vs = [.ref a.x, .str s] ∧ HAt H C a h n ∧ s ∈ h.stands ∧ ∀ H', Same H H' → Q .non H'
theorem ok_ask : Ok P w K mg base 1 ("Houses", some "ask_standing") ["self", "name"] (spAsk (cH K)) := by
  refine ok_of T.f_Houses_ask_standing c_Houses_ask_standing (fun _ _ _ _ _ _ us hl => match us, hl with | [_, _], _ => rfl) (fun vs H Q E ⟨a, h, n, s, e, _⟩ => by rw [e]; rfl) (fun cdv A outer s0 H vs Q E hr h => ?_)
  obtain ⟨a, h, n, s, rfl, A0, hst, q⟩ := h
  have hu := hr.units
  refine ⟨_, pss_one (ps_if (pt_cmpR (op_dnin hu) (pv 1) (pe_fld (pv 0) rfl) (by with_unfolding_all rfl)) pss_never pss_nil), ?_⟩
  obtain ⟨kh, hh1, hh2, hh3⟩ := A0.homes
  refine Evl.s_if (b := false) (et_T (Evl.ev_is (eb_din' (neg := true) (Evl.ev_var rfl) (A0.e1 T rfl) hh1) ?_)) (fun hb => nomatch hb) (fun _ H1 s1 => ?_)
  · rw [if_pos rfl, hh2, decide_eq_true hst]; rfl
  · exact q H1 s1
theorem ok_home_of : Ok P w K mg base 5 ("home_of", none) ["book", "day", "name"] spHome := by
  have G1 := ok_behind (P := P) (w := w) (base := base) T
  have G2 := ok_ask (P := P) (w := w) (base := base) T
  refine ok_of T.f_home_of c_home_of (fun _ _ _ _ _ _ us hl => match us, hl with | [_, _, _], _ => rfl) (fun vs H Q E ⟨ps, d, s, _, e, _⟩ => by rw [e.length]; rfl) (fun cdv A outer s0 H vs Q E hr h => ?_)
  obtain ⟨ps, d, s, hl, hs, hst, q⟩ := h
  have hr4 : Room 4 _ := hr
  have hu : _ + 1 < cLine := hu_of hr
  cases hs with
  | @cons b _ _ _ h1 h2 =>
  cases h2 with
  | @cons dv _ _ _ h2 h3 =>
  cases h3 with
  | @cons sv _ _ _ h3 h4 =>
  cases h4
  cases h2
  cases h3
  refine ⟨_, pss_cons (ps_set (i := 3) c_home_of.nd rfl (.inl rfl) (pe_fn G1 hr4 (by rfl) T.g_houses_behind (pa_cons (pv 0) (pa_cons (pv 1) pa_nil))))
    (pss_cons (ps_expr (pe_mt G2 (hr4.mono (by decide)) (pv 3) T.cl_Houses T.m_Houses_ask_standing (pa_cons (pv 2) pa_nil)))
    (pss_one (ps_ret (pe_dget hu (pe_fld (pv 3) rfl) (pv 2) (fun _ _ => rfl))))), ?_⟩
  refine ⟨_, rfl, _, rfl, ?_⟩
  refine ⟨ps, d, hl, .cons h1 (.cons (.num d) .nil), fun a H1 n s1 A1 => ?_⟩
  refine me_V (Evl.ev_var rfl) A1.ins a.m5 (Evl.ea_cons (Evl.ev_var rfl) Evl.ea_nil) fun H2 s2 => ⟨a, _, n, s, rfl, A1.same s2, hst, fun H3 s3 => ?_⟩
  have A3 := A1.same (s2.tr s3)
  obtain ⟨kh, hh1, hh2, hh3⟩ := A3.homes
  obtain ⟨v, hv⟩ := Option.isSome_iff_exists.mp ((hh2 s).trans (decide_eq_true hst))
  exact Evl.s_ret (ev_dget (A3.e1 T rfl) (Evl.ev_var rfl) hh1 hv) fun H4 s4 => q v H4 (((s1.tr s2).tr s3).tr s4)
end
end CB
/-! CBK -/
set_option Elab.async false
set_option autoImplicit false
set_option linter.all false
set_option maxRecDepth 100000
set_option maxHeartbeats 2000000
/-! The walk's object on the heap. -/
namespace CB
open PySem PySem.Spec PyProof.Rows L2
open Evl (Ev EvT EvA EvO)

/-- all but d stands -/
def Kp (H H' : Hp) (d : Addr) : Prop := ∀ b u, b ≠ d → H b = some u → H' b = some u
theorem Kp.of_same {H H' : Hp} (s : Same H H') (d : Addr) : Kp H H' d := fun b u _ e => s b u e
theorem Kp.pre {H H1 H' : Hp} {d : Addr} (s : Same H H1) (k : Kp H1 H' d) : Kp H H' d := fun b u h e => k b u h (s b u e)
theorem Kp.post {H H1 H' : Hp} {d : Addr} (k : Kp H H1 d) (s : Same H1 H') : Kp H H' d := fun b u h e => s b u (k b u h e)
theorem Wr.kp {H H' : Hp} {d : Addr} {o : HO} (x : Wr H H' d o) : Kp H H' d := x.keep
theorem kp_eq {H H1 H' : Hp} {d : Addr} (s : Same H H1) (h : ∀ b, b ≠ d → H' b = H1 b) : Kp H H' d := fun b u hb e => by rw [h b hb]; exact s b u e
theorem Kp.tup {H H' : Hp} {d : Addr} (k : Kp H H' d) (n : ∀ ys, H d ≠ some (.tup ys)) : TupLe H H' := fun b ys e => k b _ (fun z => n ys (z ▸ e)) e

structure WAd where
  (x dx book tm lost homes mourned sorts falls marks answers : Addr)
  (ml al : List Addr)
def WAd.fs (a : WAd) (m c s g : Int) : List (Str × V) := [((("own_pages" : Str)), V.ref a.book), (("own_terms" : Str), V.ref a.tm), (("lost" : Str), V.ref a.lost), (("homes" : Str), V.ref a.homes), (("mourned" : Str), V.ref a.mourned), (("sorts" : Str), V.ref a.sorts),
  (("falls" : Str), V.ref a.falls), (("marks" : Str), V.ref a.marks), (("answers" : Str), V.ref a.answers), (("made" : Str), V.int m), (("copied" : Str), V.int c), (("struck" : Str), V.int s), (("merged" : Str), V.int g)]
def WAd.fx (a : WAd) : List Addr := [a.x, a.lost, a.homes, a.mourned, a.sorts, a.falls, a.marks, a.answers]
def WAd.fp (a : WAd) : List Addr := a.fx ++ (a.ml ++ a.al)
def ivK (p : Int × Int) : NestedKey := .tup [.num p.1, .num p.2]
def mkK : Mk → NestedKey
  | .idle => .tup [.text "idle"]
  | .done => .tup [.text "done"]
  | .due => .tup [.text "due"]
  | .ans n => .tup [.text "answer", .num n]
def markK (x : Pg × Mk) : NestedKey := .tup [x.1.key, mkK x.2]
def dueKs (l : List Due) : List NestedKey := l.map dueKey

section
variable (P : Program) (w : World) (H : Hp) (C : Addr) (a : WAd)
/-- what never changes: the book, the terms, the pages that are idle -/
structure WFix where
  bk : List Pg
  t : Int × Int
  lost : List Pg
def wLost (ls : List Pg) : Prop := ∃ kvs, DN P w H a.lost kvs ∧ kvs.length ≤ ls.length ∧ ∀ p : Pg, (valV kvs p.key).isSome = decide (p ∈ ls)
def wHomes (n : Nat) (hs : List (Str × List Int)) : Prop := ∃ kvs, H a.homes = some (.dK kvs) ∧ kvs.length ≤ n ∧ ∀ s : Str, (aget hs s = none → valV kvs (Sum.inr s) = none) ∧ ∀ l, aget hs s = some l → ∃ v, valV kvs (Sum.inr s) = some v ∧ KAt H v (.tup (nums l))
def wMourned (n : Nat) (ms : List (Str × List (Int × Int))) : Prop := ∃ kvs, H a.mourned = some (.dK kvs) ∧ kvs.length ≤ n ∧ (∀ s : Str, (aget ms s = none → valV kvs (Sum.inr s) = none) ∧ ∀ l, aget ms s = some l → ∃ b xs, valV kvs (Sum.inr s) = some (.ref b) ∧ b ∈ a.ml ∧ H b = some (.lst xs) ∧ KAll H xs (l.map ivK) ∧ xs.length ≤ n) ∧
  ∀ (s s' : Str) b, valV kvs (Sum.inr s) = some (.ref b) → valV kvs (Sum.inr s') = some (.ref b) → s = s'
def wSorts (ss : List (Pg × Str)) : Prop := DN P w H a.sorts (ss.map fun e => (e.1.key, .str e.2))
def wFalls (fs : List (Due × List Int)) : Prop := ∃ kvs, DN P w H a.falls kvs ∧ Paired (fun kv e => kv.1 = dueKey e.1 ∧ KAt H kv.2 (.tup (nums e.2))) kvs fs
def wMarks (ms : List (Pg × Mk)) : Prop := ∃ xs, H a.marks = some (.lst xs) ∧ KAll H xs (ms.map markK)
def ansAt (al : List Addr) (x : V) (e : Pg × List Due) : Prop := ∃ t v l ys, x = .ref t ∧ H t = some (.tup [v, .ref l]) ∧ KAt H v e.1.key ∧ l ∈ al ∧ H l = some (.lst ys) ∧ KAll H ys (dueKs e.2)
def wAns (as : List (Pg × List Due)) : Prop := ∃ xs, H a.answers = some (.lst xs) ∧ Paired (ansAt H a.al) xs as
structure W (fx : WFix) (n : Nat) (ws : WS) : Prop where
  ins : H a.x = some (.ins C a.dx (a.fs ws.made ws.copied ws.struck ws.merged))
  book : KAt H (.ref a.book) (.tup (pgs fx.bk))
  tm : KAt H (.ref a.tm) (.tup [.num fx.t.1, .num fx.t.2])
  lost : wLost P w H a fx.lost
  homes : wHomes H a n ws.homes
  mourned : wMourned H a n ws.mourned
  sorts : wSorts P w H a ws.sorts
  falls : wFalls P w H a ws.falls
  marks : wMarks H a ws.marks
  ans : wAns H a ws.answers
  mls : ∀ b ∈ a.ml ++ a.al, ∃ xs, H b = some (.lst xs)
  nd : a.fp.Nodup
  bnd : ws.sorts.length ≤ n ∧ ws.marks.length ≤ n ∧ ws.answers.length ≤ n
  le : n ≤ 2000
end
section
variable {P : Program} {w : World} {H H' : Hp} {C : Addr} {a : WAd} {fx : WFix} {n : Nat} {ws : WS}
theorem wLost.keep {ls : List Pg} (x : wLost P w H a ls) (t : TupLe H H') (k : ∀ u, H a.lost = some u → H' a.lost = some u) : wLost P w H' a ls := by
  obtain ⟨kvs, ⟨o, e, d⟩, r⟩ := x
  exact ⟨kvs, ⟨o, k _ e, d.keep t⟩, r⟩
theorem wHomes.keep {hs : List (Str × List Int)} (x : wHomes H a n hs) (t : TupLe H H') (k : ∀ u, H a.homes = some u → H' a.homes = some u) : wHomes H' a n hs := by
  obtain ⟨kvs, e, z, r⟩ := x
  exact ⟨kvs, k _ e, z, fun s => ⟨(r s).1, fun l hl => let ⟨v, g1, g2⟩ := (r s).2 l hl; ⟨v, g1, KAt.keep t _ _ g2⟩⟩⟩
theorem wMourned.keep {ms : List (Str × List (Int × Int))} (x : wMourned H a n ms) (t : TupLe H H') (k : ∀ u, H a.mourned = some u → H' a.mourned = some u) (k2 : ∀ b ∈ a.ml, ∀ u, H b = some u → H' b = some u) : wMourned H' a n ms := by
  obtain ⟨kvs, e, z, r, i⟩ := x
  exact ⟨kvs, k _ e, z, fun s => ⟨(r s).1, fun l hl => let ⟨b, xs, g1, g2, g3, g4, g5⟩ := (r s).2 l hl; ⟨b, xs, g1, g2, k2 b g2 _ g3, KAll.keep t _ _ g4, g5⟩⟩, i⟩
theorem wSorts.keep {ss : List (Pg × Str)} (x : wSorts P w H a ss) (t : TupLe H H') (k : ∀ u, H a.sorts = some u → H' a.sorts = some u) : wSorts P w H' a ss := by
  obtain ⟨o, e, d⟩ := x
  exact ⟨o, k _ e, d.keep t⟩
theorem wFalls.keep {fs : List (Due × List Int)} (x : wFalls P w H a fs) (t : TupLe H H') (k : ∀ u, H a.falls = some u → H' a.falls = some u) : wFalls P w H' a fs := by
  obtain ⟨kvs, ⟨o, e, d⟩, r⟩ := x
  exact ⟨kvs, ⟨o, k _ e, d.keep t⟩, Paired.mapP r fun _ _ z => ⟨z.1, KAt.keep t _ _ z.2⟩⟩
theorem wMarks.keep {ms : List (Pg × Mk)} (x : wMarks H a ms) (t : TupLe H H') (k : ∀ u, H a.marks = some u → H' a.marks = some u) : wMarks H' a ms := by
  obtain ⟨xs, e, r⟩ := x
  exact ⟨xs, k _ e, KAll.keep t _ _ r⟩
theorem ansAt.keep {al : List Addr} {x : V} {e : Pg × List Due} (z : ansAt H al x e) (t : TupLe H H') (k2 : ∀ b ∈ al, ∀ u, H b = some u → H' b = some u) : ansAt H' al x e := by
  obtain ⟨q, v, l, ys, h1, h2, h3, h4, h5, h6⟩ := z
  exact ⟨q, v, l, ys, h1, t _ _ h2, KAt.keep t _ _ h3, h4, k2 l h4 _ h5, KAll.keep t _ _ h6⟩
theorem wAns.keep {as : List (Pg × List Due)} (x : wAns H a as) (t : TupLe H H') (k : ∀ u, H a.answers = some u → H' a.answers = some u) (k2 : ∀ b ∈ a.al, ∀ u, H b = some u → H' b = some u) : wAns H' a as := by
  obtain ⟨xs, e, r⟩ := x
  exact ⟨xs, k _ e, Paired.mapP r fun _ _ z => z.keep t k2⟩
theorem W.same (x : W P w H C a fx n ws) (s : Same H H') : W P w H' C a fx n ws := by
  have t := TupLe.of_same s
  exact ⟨s _ _ x.ins, x.book.mono s, x.tm.mono s, x.lost.keep t (s _), x.homes.keep t (s _), x.mourned.keep t (s _) fun b _ => s b, x.sorts.keep t (s _), x.falls.keep t (s _), x.marks.keep t (s _), x.ans.keep t (s _) fun b _ => s b, fun b hb => let ⟨xs, e⟩ := x.mls b hb; ⟨xs, s _ _ e⟩, x.nd, x.bnd, x.le⟩
theorem W.more (x : W P w H C a fx n ws) {m : Nat} (le : n ≤ m) (lm : m ≤ 2000) : W P w H C a fx m ws := by
  obtain ⟨kvs, e, z, r⟩ := x.homes
  obtain ⟨kvm, em, zm, rm, im⟩ := x.mourned
  obtain ⟨b1, b2, b3⟩ := x.bnd
  exact ⟨x.ins, x.book, x.tm, x.lost, ⟨kvs, e, Nat.le_trans z le, r⟩, ⟨kvm, em, Nat.le_trans zm le, fun s => ⟨(rm s).1, fun l hl => let ⟨b, xs, g1, g2, g3, g4, g5⟩ := (rm s).2 l hl; ⟨b, xs, g1, g2, g3, g4, Nat.le_trans g5 le⟩⟩, im⟩, x.sorts, x.falls, x.marks, x.ans, x.mls, x.nd, ⟨Nat.le_trans b1 le, Nat.le_trans b2 le, Nat.le_trans b3 le⟩, lm⟩
theorem DN.ntup {d : Addr} {kvs : List (NestedKey × V)} (x : DN P w H d kvs) : ∀ ys, H d ≠ Option.some (HO.tup ys) := fun ys e => by
  obtain ⟨o, e2, _⟩ := x
  rw [e2] at e; cases e
/-- what stands at the footprint -/
theorem W.obj (x : W P w H C a fx n ws) : ∀ b ∈ a.fp, ∃ o, H b = some o ∧ ∀ ys, o ≠ .tup ys := by
  intro b hb
  simp only [WAd.fp, WAd.fx, List.mem_append, List.mem_cons, List.not_mem_nil, or_false] at hb
  obtain ⟨kl, ⟨ol, el, _⟩, _⟩ := x.lost
  obtain ⟨kh, eh, _⟩ := x.homes
  obtain ⟨km, em, _⟩ := x.mourned
  obtain ⟨os, es, _⟩ := x.sorts
  obtain ⟨kf, ⟨of, ef, _⟩, _⟩ := x.falls
  obtain ⟨xm, exm, _⟩ := x.marks
  obtain ⟨xa, exa, _⟩ := x.ans
  rcases hb with (rfl | rfl | rfl | rfl | rfl | rfl | rfl | rfl) | hb
  · exact ⟨_, x.ins, fun ys z => by cases z⟩
  · exact ⟨_, el, fun ys z => by cases z⟩
  · exact ⟨_, eh, fun ys z => by cases z⟩
  · exact ⟨_, em, fun ys z => by cases z⟩
  · exact ⟨_, es, fun ys z => by cases z⟩
  · exact ⟨_, ef, fun ys z => by cases z⟩
  · exact ⟨_, exm, fun ys z => by cases z⟩
  · exact ⟨_, exa, fun ys z => by cases z⟩
  · obtain ⟨xs, e⟩ := x.mls b (List.mem_append.mpr hb)
    exact ⟨_, e, fun ys z => by cases z⟩
theorem W.ntup (x : W P w H C a fx n ws) {b : Addr} (hb : b ∈ a.fp) : ∀ ys, H b ≠ some (.tup ys) := fun ys e => by
  obtain ⟨o, e2, z⟩ := x.obj b hb
  rw [e2] at e; cases e; exact z ys rfl
theorem W.new (x : W P w H C a fx n ws) {b : Addr} (e : H b = none) : b ∉ a.fp := fun hb => by
  obtain ⟨o, e2, _⟩ := x.obj b hb
  rw [e] at e2; cases e2
theorem W.tupLe (x : W P w H C a fx n ws) {d : Addr} (hd : d ∈ a.fp) (k : Kp H H' d) : TupLe H H' := k.tup (x.ntup hd)
theorem WAd.mem (a : WAd) : a.x ∈ a.fp ∧ a.lost ∈ a.fp ∧ a.homes ∈ a.fp ∧ a.mourned ∈ a.fp ∧ a.sorts ∈ a.fp ∧ a.falls ∈ a.fp ∧ a.marks ∈ a.fp ∧ a.answers ∈ a.fp ∧ (∀ b ∈ a.ml, b ∈ a.fp) ∧ ∀ b ∈ a.al, b ∈ a.fp := by
  refine ⟨?_, ?_, ?_, ?_, ?_, ?_, ?_, ?_, fun b hb => ?_, fun b hb => ?_⟩ <;> simp [WAd.fp, WAd.fx, *]
/-- two of the named ones differ -/
theorem WAd.nes {a : WAd} (nd : a.fp.Nodup) : a.fx.Nodup ∧ (∀ b ∈ a.fx, b ∉ a.ml ∧ b ∉ a.al) ∧ a.ml.Nodup ∧ a.al.Nodup ∧ ∀ b ∈ a.ml, b ∉ a.al := by
  unfold WAd.fp at nd
  rw [List.nodup_append, List.nodup_append] at nd
  obtain ⟨h1, ⟨h2, h3, h4⟩, h5⟩ := nd
  exact ⟨h1, fun b hb => ⟨fun z => h5 b hb b (List.mem_append_left _ z) rfl, fun z => h5 b hb b (List.mem_append_right _ z) rfl⟩, h2, h3, fun b hb z => h4 b hb b z rfl⟩
/-- from one to the next -/
structure Stp (H H' : Hp) (a a' : WAd) : Prop where
  keep : ∀ b o, H b = some o → b ∉ a.fp → H' b = some o
  fp : ∀ b ∈ a'.fp, b ∈ a.fp ∨ H b = none
  fix : a'.x = a.x ∧ a'.dx = a.dx ∧ a'.book = a.book ∧ a'.tm = a.tm ∧ a'.lost = a.lost ∧ a'.homes = a.homes ∧ a'.mourned = a.mourned ∧ a'.sorts = a.sorts ∧ a'.falls = a.falls ∧ a'.marks = a.marks ∧ a'.answers = a.answers
  tup : TupLe H H'
theorem Stp.same {H H' : Hp} (s : Same H H') (a : WAd) : Stp H H' a a := ⟨fun _ _ e _ => s _ _ e, fun _ h => .inl h, ⟨rfl, rfl, rfl, rfl, rfl, rfl, rfl, rfl, rfl, rfl, rfl⟩, .of_same s⟩
theorem Stp.trans {H H1 H2 : Hp} {a a1 a2 : WAd} (s : Stp H H1 a a1) (t : Stp H1 H2 a1 a2) : Stp H H2 a a2 where
  keep := fun b o e hb => t.keep b o (s.keep b o e hb) fun hb1 => (s.fp b hb1).elim hb fun n => by rw [n] at e; cases e
  fp := fun b hb => (t.fp b hb).elim (fun h => s.fp b h) fun n => by
    by_cases hb1 : b ∈ a.fp
    · exact .inl hb1
    · refine .inr ?_
      cases e : H b with
      | none => rfl
      | some o => rw [s.keep b o e hb1] at n; cases n
  fix := by
    obtain ⟨h1, h2, h3, h4, h5, h6, h7, h8, h9, h10, h11⟩ := s.fix
    obtain ⟨g1, g2, g3, g4, g5, g6, g7, g8, g9, g10, g11⟩ := t.fix
    exact ⟨g1.trans h1, g2.trans h2, g3.trans h3, g4.trans h4, g5.trans h5, g6.trans h6, g7.trans h7, g8.trans h8, g9.trans h9, g10.trans h10, g11.trans h11⟩
  tup := s.tup.trans t.tup
theorem W.stp (x : W P w H C a fx n ws) {d : Addr} (hd : d ∈ a.fp) (k : Kp H H' d) : Stp H H' a a :=
  ⟨fun b o e hb => k b o (fun z => hb (z ▸ hd)) e, fun b hb => .inl hb, ⟨rfl, rfl, rfl, rfl, rfl, rfl, rfl, rfl, rfl, rfl, rfl⟩, x.tupLe hd k⟩

/-! one part written -/
theorem WAd.fxne {a : WAd} (nd : a.fp.Nodup) : a.x ∉ [a.lost, a.homes, a.mourned, a.sorts, a.falls, a.marks, a.answers] ∧ a.lost ∉ [a.homes, a.mourned, a.sorts, a.falls, a.marks, a.answers] ∧ a.homes ∉ [a.mourned, a.sorts, a.falls, a.marks, a.answers] ∧ a.mourned ∉ [a.sorts, a.falls, a.marks, a.answers] ∧ a.sorts ∉ [a.falls, a.marks, a.answers] ∧ a.falls ∉ [a.marks, a.answers] ∧ a.marks ∉ [a.answers] := by
  have h := (WAd.nes nd).1
  unfold WAd.fx at h
  simp only [List.nodup_cons] at h
  exact ⟨h.1, h.2.1, h.2.2.1, h.2.2.2.1, h.2.2.2.2.1, h.2.2.2.2.2.1, h.2.2.2.2.2.2.1⟩
theorem W.wFalls (x : W P w H C a fx n ws) (k : Kp H H' a.falls) {fs : List (Due × List Int)} (nf : CB.wFalls P w H' a fs) : W P w H' C a fx n { ws with falls := fs } := by
  obtain ⟨m1, m2, m3, m4, m5, m6, m7, m8, m9, m10⟩ := a.mem
  have t := x.tupLe m6 k
  obtain ⟨n1, n2, n3, n4, n5, n6, n7⟩ := WAd.fxne x.nd
  simp only [List.mem_cons, List.not_mem_nil, or_false, not_or] at n1 n2 n3 n4 n5 n6 n7
  have nl := (WAd.nes x.nd).2.1 a.falls (by simp [WAd.fx])
  exact ⟨k _ _ n1.2.2.2.2.1 x.ins, KAt.keep t _ _ x.book, KAt.keep t _ _ x.tm, x.lost.keep t fun u => k _ u n2.2.2.2.1, x.homes.keep t fun u => k _ u n3.2.2.1, x.mourned.keep t (fun u => k _ u n4.2.1) fun b hb u => k b u fun z => nl.1 (z ▸ hb),
    x.sorts.keep t fun u => k _ u n5.1, nf, x.marks.keep t fun u => k _ u (Ne.symm n6.1), x.ans.keep t (fun u => k _ u (Ne.symm n6.2)) fun b hb u => k b u fun z => nl.2 (z ▸ hb), fun b hb => let ⟨xs, e⟩ := x.mls b hb; ⟨xs, k b _ (fun z => (List.mem_append.mp hb).elim (fun q => nl.1 (z ▸ q)) fun q => nl.2 (z ▸ q)) e⟩, x.nd, x.bnd, x.le⟩
theorem W.wSorts (x : W P w H C a fx n ws) (k : Kp H H' a.sorts) {ss : List (Pg × Str)} (nf : CB.wSorts P w H' a ss) (hl : ss.length ≤ n) : W P w H' C a fx n { ws with sorts := ss } := by
  obtain ⟨m1, m2, m3, m4, m5, m6, m7, m8, m9, m10⟩ := a.mem
  have t := x.tupLe m5 k
  obtain ⟨n1, n2, n3, n4, n5, n6, n7⟩ := WAd.fxne x.nd
  simp only [List.mem_cons, List.not_mem_nil, or_false, not_or] at n1 n2 n3 n4 n5 n6 n7
  have nl := (WAd.nes x.nd).2.1 a.sorts (by simp [WAd.fx])
  exact ⟨k _ _ n1.2.2.2.1 x.ins, KAt.keep t _ _ x.book, KAt.keep t _ _ x.tm, x.lost.keep t fun u => k _ u n2.2.2.1, x.homes.keep t fun u => k _ u n3.2.1, x.mourned.keep t (fun u => k _ u n4.1) fun b hb u => k b u fun z => nl.1 (z ▸ hb),
    nf, x.falls.keep t fun u => k _ u (Ne.symm n5.1), x.marks.keep t fun u => k _ u (Ne.symm n5.2.1), x.ans.keep t (fun u => k _ u (Ne.symm n5.2.2)) fun b hb u => k b u fun z => nl.2 (z ▸ hb), fun b hb => let ⟨xs, e⟩ := x.mls b hb; ⟨xs, k b _ (fun z => (List.mem_append.mp hb).elim (fun q => nl.1 (z ▸ q)) fun q => nl.2 (z ▸ q)) e⟩, x.nd, ⟨hl, x.bnd.2.1, x.bnd.2.2⟩, x.le⟩
theorem W.wMarks (x : W P w H C a fx n ws) (k : Kp H H' a.marks) {ms : List (Pg × Mk)} (nf : CB.wMarks H' a ms) (hl : ms.length ≤ n) : W P w H' C a fx n { ws with marks := ms } := by
  obtain ⟨m1, m2, m3, m4, m5, m6, m7, m8, m9, m10⟩ := a.mem
  have t := x.tupLe m7 k
  obtain ⟨n1, n2, n3, n4, n5, n6, n7⟩ := WAd.fxne x.nd
  simp only [List.mem_cons, List.not_mem_nil, or_false, not_or] at n1 n2 n3 n4 n5 n6 n7
  have nl := (WAd.nes x.nd).2.1 a.marks (by simp [WAd.fx])
  exact ⟨k _ _ n1.2.2.2.2.2.1 x.ins, KAt.keep t _ _ x.book, KAt.keep t _ _ x.tm, x.lost.keep t fun u => k _ u n2.2.2.2.2.1, x.homes.keep t fun u => k _ u n3.2.2.2.1, x.mourned.keep t (fun u => k _ u n4.2.2.1) fun b hb u => k b u fun z => nl.1 (z ▸ hb),
    x.sorts.keep t fun u => k _ u n5.2.1, x.falls.keep t fun u => k _ u n6.1, nf, x.ans.keep t (fun u => k _ u (Ne.symm n7)) fun b hb u => k b u fun z => nl.2 (z ▸ hb), fun b hb => let ⟨xs, e⟩ := x.mls b hb; ⟨xs, k b _ (fun z => (List.mem_append.mp hb).elim (fun q => nl.1 (z ▸ q)) fun q => nl.2 (z ▸ q)) e⟩, x.nd, ⟨x.bnd.1, hl, x.bnd.2.2⟩, x.le⟩
theorem W.wHomes (x : W P w H C a fx n ws) (k : Kp H H' a.homes) {hs : List (Str × List Int)} (nf : CB.wHomes H' a n hs) : W P w H' C a fx n { ws with homes := hs } := by
  obtain ⟨m1, m2, m3, m4, m5, m6, m7, m8, m9, m10⟩ := a.mem
  have t := x.tupLe m3 k
  obtain ⟨n1, n2, n3, n4, n5, n6, n7⟩ := WAd.fxne x.nd
  simp only [List.mem_cons, List.not_mem_nil, or_false, not_or] at n1 n2 n3 n4 n5 n6 n7
  have nl := (WAd.nes x.nd).2.1 a.homes (by simp [WAd.fx])
  exact ⟨k _ _ n1.2.1 x.ins, KAt.keep t _ _ x.book, KAt.keep t _ _ x.tm, x.lost.keep t fun u => k _ u n2.1, nf, x.mourned.keep t (fun u => k _ u (Ne.symm n3.1)) fun b hb u => k b u fun z => nl.1 (z ▸ hb),
    x.sorts.keep t fun u => k _ u (Ne.symm n3.2.1), x.falls.keep t fun u => k _ u (Ne.symm n3.2.2.1), x.marks.keep t fun u => k _ u (Ne.symm n3.2.2.2.1), x.ans.keep t (fun u => k _ u (Ne.symm n3.2.2.2.2)) fun b hb u => k b u fun z => nl.2 (z ▸ hb), fun b hb => let ⟨xs, e⟩ := x.mls b hb; ⟨xs, k b _ (fun z => (List.mem_append.mp hb).elim (fun q => nl.1 (z ▸ q)) fun q => nl.2 (z ▸ q)) e⟩, x.nd, x.bnd, x.le⟩
theorem W.wIns (x : W P w H C a fx n ws) (k : Kp H H' a.x) {m c s g : Int} (ni : H' a.x = some (.ins C a.dx (a.fs m c s g))) : W P w H' C a fx n { ws with made := m, copied := c, struck := s, merged := g } := by
  obtain ⟨m1, m2, m3, m4, m5, m6, m7, m8, m9, m10⟩ := a.mem
  have t := x.tupLe m1 k
  obtain ⟨n1, n2, n3, n4, n5, n6, n7⟩ := WAd.fxne x.nd
  simp only [List.mem_cons, List.not_mem_nil, or_false, not_or] at n1 n2 n3 n4 n5 n6 n7
  have nl := (WAd.nes x.nd).2.1 a.x (by simp [WAd.fx])
  obtain ⟨y1, y2, y3, y4, y5, y6, y7⟩ := n1
  exact ⟨ni, KAt.keep t _ _ x.book, KAt.keep t _ _ x.tm, x.lost.keep t fun u => k _ u (Ne.symm y1), x.homes.keep t fun u => k _ u (Ne.symm y2), x.mourned.keep t (fun u => k _ u (Ne.symm y3)) fun b hb u => k b u fun z => nl.1 (z ▸ hb),
    x.sorts.keep t fun u => k _ u (Ne.symm y4), x.falls.keep t fun u => k _ u (Ne.symm y5), x.marks.keep t fun u => k _ u (Ne.symm y6), x.ans.keep t (fun u => k _ u (Ne.symm y7)) fun b hb u => k b u fun z => nl.2 (z ▸ hb), fun b hb => let ⟨xs, e⟩ := x.mls b hb; ⟨xs, k b _ (fun z => (List.mem_append.mp hb).elim (fun q => nl.1 (z ▸ q)) fun q => nl.2 (z ▸ q)) e⟩, x.nd, x.bnd, x.le⟩
end
end CB
/-! CBK2 -/
set_option Elab.async false
set_option autoImplicit false
set_option linter.all false
set_option maxRecDepth 100000
set_option maxHeartbeats 2000000
/-! The walk's object read; the loop over its dues; mourns. -/
namespace CB
open PySem PySem.Spec PyProof.Rows L2
open Evl (Ev EvT EvA EvO)
abbrev cW (K : PySem.W.Frag) : Addr := He.ga K "Walk"
section
variable (a : WAd) (m c s g : Int)
theorem WAd.f1 : (a.fs m c s g).lookup ("own_pages" : Str) = some (.ref a.book) := by rfl
theorem WAd.f2 : (a.fs m c s g).lookup ("own_terms" : Str) = some (.ref a.tm) := by rfl
theorem WAd.f3 : (a.fs m c s g).lookup ("lost" : Str) = some (.ref a.lost) := by rfl
theorem WAd.f4 : (a.fs m c s g).lookup ("homes" : Str) = some (.ref a.homes) := by rfl
theorem WAd.f5 : (a.fs m c s g).lookup ("mourned" : Str) = some (.ref a.mourned) := by rfl
theorem WAd.f6 : (a.fs m c s g).lookup ("sorts" : Str) = some (.ref a.sorts) := by rfl
theorem WAd.f7 : (a.fs m c s g).lookup ("falls" : Str) = some (.ref a.falls) := by rfl
theorem WAd.f8 : (a.fs m c s g).lookup ("marks" : Str) = some (.ref a.marks) := by rfl
theorem WAd.f9 : (a.fs m c s g).lookup ("answers" : Str) = some (.ref a.answers) := by rfl
theorem WAd.fa : (a.fs m c s g).lookup ("made" : Str) = some (.int m) := by rfl
theorem WAd.fb : (a.fs m c s g).lookup ("copied" : Str) = some (.int c) := by rfl
theorem WAd.fc : (a.fs m c s g).lookup ("struck" : Str) = some (.int s) := by rfl
theorem WAd.fd : (a.fs m c s g).lookup ("merged" : Str) = some (.int g) := by rfl
theorem WAd.pa (y : Int) : putF "made" (.int y) (a.fs m c s g) = a.fs y c s g := by rfl
theorem WAd.pb (y : Int) : putF "copied" (.int y) (a.fs m c s g) = a.fs m y s g := by rfl
theorem WAd.pc (y : Int) : putF "struck" (.int y) (a.fs m c s g) = a.fs m c y g := by rfl
theorem WAd.pd (y : Int) : putF "merged" (.int y) (a.fs m c s g) = a.fs m c s y := by rfl
theorem WAd.m1 : (a.fs m c s g).lookup ("mourns" : Str) = none := by rfl
theorem WAd.m2 : (a.fs m c s g).lookup ("is_met" : Str) = none := by rfl
theorem WAd.m3 : (a.fs m c s g).lookup ("go" : Str) = none := by rfl
theorem WAd.m4 : (a.fs m c s g).lookup ("part" : Str) = none := by rfl
theorem WAd.m5 : (a.fs m c s g).lookup ("join" : Str) = none := by rfl
theorem WAd.m6 : (a.fs m c s g).lookup ("lay" : Str) = none := by rfl
theorem WAd.m7 : (a.fs m c s g).lookup ("put" : Str) = none := by rfl
theorem WAd.m8 : (a.fs m c s g).lookup ("fall" : Str) = none := by rfl
theorem WAd.m9 : (a.fs m c s g).lookup ("go_to" : Str) = none := by rfl
theorem WAd.ma : (a.fs m c s g).lookup ("places" : Str) = none := by rfl
theorem WAd.mb : (a.fs m c s g).lookup ("dues_told" : Str) = none := by rfl
theorem WAd.few : (a.fs m c s g).length < 1000 := Nat.le_of_ble_eq_true rfl
end
section
variable {P : Program} {w : World} {K : PySem.W.Frag} {mg : Str → Option Value} {H H' : Hp} {a : WAd} {fx : WFix} {n : Nat} {ws : WS} {σ : L2.St} {i : Nat} {ta : TE}
theorem W.e1 (x : W P w H (cW K) a fx n ws) (T : Tp K mg) (e : Ev ta σ H (.ref a.x)) : Ev (tFld K ta "own_pages") σ H (.ref a.book) := ev_fld e x.ins T.cl_Walk T.n_Walk_own_pages (a.f1 _ _ _ _)
theorem W.e2 (x : W P w H (cW K) a fx n ws) (T : Tp K mg) (e : Ev ta σ H (.ref a.x)) : Ev (tFld K ta "own_terms") σ H (.ref a.tm) := ev_fld e x.ins T.cl_Walk T.n_Walk_own_terms (a.f2 _ _ _ _)
theorem W.e3 (x : W P w H (cW K) a fx n ws) (T : Tp K mg) (e : Ev ta σ H (.ref a.x)) : Ev (tFld K ta "lost") σ H (.ref a.lost) := ev_fld e x.ins T.cl_Walk T.n_Walk_lost (a.f3 _ _ _ _)
theorem W.e4 (x : W P w H (cW K) a fx n ws) (T : Tp K mg) (e : Ev ta σ H (.ref a.x)) : Ev (tFld K ta "homes") σ H (.ref a.homes) := ev_fld e x.ins T.cl_Walk T.n_Walk_homes (a.f4 _ _ _ _)
theorem W.e5 (x : W P w H (cW K) a fx n ws) (T : Tp K mg) (e : Ev ta σ H (.ref a.x)) : Ev (tFld K ta "mourned") σ H (.ref a.mourned) := ev_fld e x.ins T.cl_Walk T.n_Walk_mourned (a.f5 _ _ _ _)
theorem W.e6 (x : W P w H (cW K) a fx n ws) (T : Tp K mg) (e : Ev ta σ H (.ref a.x)) : Ev (tFld K ta "sorts") σ H (.ref a.sorts) := ev_fld e x.ins T.cl_Walk T.n_Walk_sorts (a.f6 _ _ _ _)
theorem W.e7 (x : W P w H (cW K) a fx n ws) (T : Tp K mg) (e : Ev ta σ H (.ref a.x)) : Ev (tFld K ta "falls") σ H (.ref a.falls) := ev_fld e x.ins T.cl_Walk T.n_Walk_falls (a.f7 _ _ _ _)
theorem W.e8 (x : W P w H (cW K) a fx n ws) (T : Tp K mg) (e : Ev ta σ H (.ref a.x)) : Ev (tFld K ta "marks") σ H (.ref a.marks) := ev_fld e x.ins T.cl_Walk T.n_Walk_marks (a.f8 _ _ _ _)
theorem W.e9 (x : W P w H (cW K) a fx n ws) (T : Tp K mg) (e : Ev ta σ H (.ref a.x)) : Ev (tFld K ta "answers") σ H (.ref a.answers) := ev_fld e x.ins T.cl_Walk T.n_Walk_answers (a.f9 _ _ _ _)
theorem W.ea (x : W P w H (cW K) a fx n ws) (T : Tp K mg) (e : Ev ta σ H (.ref a.x)) : Ev (tFld K ta "made") σ H (.int ws.made) := ev_fld e x.ins T.cl_Walk T.n_Walk_made (a.fa _ _ _ _)
theorem W.eb (x : W P w H (cW K) a fx n ws) (T : Tp K mg) (e : Ev ta σ H (.ref a.x)) : Ev (tFld K ta "copied") σ H (.int ws.copied) := ev_fld e x.ins T.cl_Walk T.n_Walk_copied (a.fb _ _ _ _)
theorem W.ec (x : W P w H (cW K) a fx n ws) (T : Tp K mg) (e : Ev ta σ H (.ref a.x)) : Ev (tFld K ta "struck") σ H (.int ws.struck) := ev_fld e x.ins T.cl_Walk T.n_Walk_struck (a.fc _ _ _ _)
theorem W.ed (x : W P w H (cW K) a fx n ws) (T : Tp K mg) (e : Ev ta σ H (.ref a.x)) : Ev (tFld K ta "merged") σ H (.int ws.merged) := ev_fld e x.ins T.cl_Walk T.n_Walk_merged (a.fd _ _ _ _)

/-! the dues' dict against the mirror -/
theorem falls_get {kvs : List (NestedKey × V)} {fs : List (Due × List Int)} (r : Paired (fun kv e => kv.1 = dueKey e.1 ∧ KAt H kv.2 (.tup (nums e.2))) kvs fs) (d : Due) : (aget fs d = none → valV kvs (dueKey d) = none) ∧ ∀ l, aget fs d = some l → ∃ v, valV kvs (dueKey d) = some v ∧ KAt H v (.tup (nums l)) := by
  induction r with
  | nil => exact ⟨fun _ => rfl, fun l z => (nomatch z)⟩
  | @cons p q ps qs h t ih =>
    rw [aget_cons]
    by_cases e : q.1 = d
    · rw [if_pos e, valV_pos (h.1.trans (congrArg dueKey e))]
      exact ⟨fun z => (nomatch z), fun l z => ⟨_, rfl, by cases z; exact h.2⟩⟩
    · rw [if_neg e, valV_neg fun z => e (dueKey_inj (h.1.symm.trans z))]
      exact ih
theorem falls_keys {kvs : List (NestedKey × V)} {fs : List (Due × List Int)} (r : Paired (fun kv e => kv.1 = dueKey e.1 ∧ KAt H kv.2 (.tup (nums e.2))) kvs fs) : kvs.map (·.1) = (akeys fs).map dueKey := by
  induction r with
  | nil => rfl
  | cons h t ih => rw [List.map_cons, ih, h.1]; rfl
theorem falls_put {kvs : List (NestedKey × V)} {fs : List (Due × List Int)} (r : Paired (fun kv e => kv.1 = dueKey e.1 ∧ KAt H kv.2 (.tup (nums e.2))) kvs fs) (d : Due) {v : V} {l : List Int} (hv : KAt H v (.tup (nums l))) : Paired (fun kv e => kv.1 = dueKey e.1 ∧ KAt H kv.2 (.tup (nums e.2))) (putK kvs (dueKey d) v) (aput fs d l) := by
  have ha : (kvs.any fun kv => decide (kv.1 = dueKey d)) = (fs.any fun p => decide (p.1 = d)) := by
    clear hv
    induction r with
    | nil => rfl
    | @cons p q ps qs h t ih =>
      rw [List.any_cons, List.any_cons, ih, h.1]
      congr 1
      exact decide_eq_decide.mpr ⟨fun z => dueKey_inj z, fun z => by rw [z]⟩
  unfold putK aput
  rw [ha]
  by_cases e : (fs.any fun p => decide (p.1 = d)) = true
  · rw [if_pos e, if_pos e]
    clear ha e
    induction r with
    | nil => exact .nil
    | @cons p q ps qs h t ih =>
      rw [List.map_cons, List.map_cons]
      refine .cons ?_ ih
      by_cases e : q.1 = d
      · rw [if_pos (h.1.trans (congrArg dueKey e)), if_pos e]
        exact ⟨h.1, hv⟩
      · rw [if_neg fun z => e (dueKey_inj (h.1.symm.trans z)), if_neg e]
        exact h
  · rw [if_neg e, if_neg e]
    exact Paired.snoc r ⟨rfl, hv⟩
theorem falls_drop {kvs : List (NestedKey × V)} {fs : List (Due × List Int)} (r : Paired (fun kv e => kv.1 = dueKey e.1 ∧ KAt H kv.2 (.tup (nums e.2))) kvs fs) (d : Due) : Paired (fun kv e => kv.1 = dueKey e.1 ∧ KAt H kv.2 (.tup (nums e.2))) (dropK kvs (dueKey d)) (adel fs d) := by
  unfold dropK adel
  induction r with
  | nil => exact .nil
  | @cons p q ps qs h t ih =>
    rw [List.filter_cons, List.filter_cons]
    by_cases e : q.1 = d
    · rw [if_neg (by simp [h.1, e]), if_neg (by simp [e])]
      exact ih
    · rw [if_pos (by simp [h.1]; exact fun z => e (dueKey_inj z)), if_pos (by simp [e])]
      exact .cons h ih
theorem falls_len {kvs : List (NestedKey × V)} {fs : List (Due × List Int)} (r : Paired (fun kv e => kv.1 = dueKey e.1 ∧ KAt H kv.2 (.tup (nums e.2))) kvs fs) : kvs.length = fs.length := Paired.length r
def sortsD (ss : List (Pg × Str)) : List (NestedKey × V) := ss.map fun e => (e.1.key, .str e.2)
theorem sorts_get (ss : List (Pg × Str)) (p : Pg) : valV (sortsD ss) p.key = (aget ss p).map V.str := by
  induction ss with
  | nil => rfl
  | cons q ss ih =>
    rw [aget_cons]
    show valV ((q.1.key, V.str q.2) :: sortsD ss) p.key = _
    by_cases e : q.1 = p
    · rw [if_pos e, valV_pos (by rw [e])]; rfl
    · rw [if_neg e, valV_neg fun z => e (Pg.key_inj z)]; exact ih
theorem sorts_put (ss : List (Pg × Str)) (p : Pg) (s : Str) : putK (sortsD ss) p.key (.str s) = sortsD (aput ss p s) := by
  have ha : ((sortsD ss).any fun kv => decide (kv.1 = p.key)) = (ss.any fun q => decide (q.1 = p)) := by
    unfold sortsD
    rw [List.any_map]
    refine congrArg (fun f => ss.any f) (funext fun q => ?_)
    exact decide_eq_decide.mpr ⟨fun z => Pg.key_inj z, fun z => congrArg Pg.key z⟩
  unfold putK aput
  rw [ha]
  split
  · unfold sortsD
    rw [List.map_map, List.map_map]
    refine List.map_congr_left fun q _ => ?_
    show (if q.1.key = p.key then (q.1.key, V.str s) else (q.1.key, V.str q.2)) = ((if q.1 = p then (q.1, s) else q).1.key, V.str (if q.1 = p then (q.1, s) else q).2)
    by_cases e : q.1 = p
    · rw [if_pos (by rw [e]), if_pos e]
    · rw [if_neg fun z => e (Pg.key_inj z), if_neg e]
  · unfold sortsD
    rw [List.map_append]; rfl

/-! the loop over the dues -/
variable {td : TE} {tb : TS} {D : Ends} {j : Nat} {Sh : L2.St → Prop} {stepf : WS → Due → WS} {Pre : WS → Due → Prop}
theorem s_loop (x : W P w H (cW K) a fx n ws) (hev : Ev td σ H (.ref a.falls)) (h0 : Sh σ) (hl : ws.falls.length ≤ 4000)
    (pre : ∀ i d, (akeys ws.falls)[i]? = some d → Pre (((akeys ws.falls).take i).foldl stepf ws) d)
    (body : ∀ (ws' : WS) (d : Due) (v : V) (σ' : L2.St) (H1 : Hp) (D' : Ends), Sh σ' → W P w H1 (cW K) a fx n ws' → Stp H H1 a a → Pre ws' d → KAt H1 v (dueKey d) → (∀ σ2 H2, Sh σ2 → Stp H1 H2 a a → W P w H2 (cW K) a fx n (stepf ws' d) → D'.nx σ2 H2) → tb D' (σ'.set j (some v)) H1)
    (q : ∀ σ2 H2, Sh σ2 → Stp H H2 a a → W P w H2 (cW K) a fx n ((akeys ws.falls).foldl stepf ws) → D.nx σ2 H2) :
    tFor (iList K (tCB (rListN P w) (tCons td tNil))) (gName j) tb D σ H := by
  refine hev H (Evl.Ex.refl _) _ fun H1 s1 => ?_
  have x1 := x.same s1
  obtain ⟨kvs, dn, r⟩ := x1.falls
  refine ⟨a.falls, kvs, rfl, dn, fun p bs hp hk => ?_⟩
  have s2 : Same H1 (upd H1 p (.lst (bs.map V.ref))) := .up hp
  have hk2 := hk.mono s2
  rw [falls_keys r] at hk2
  have lb : (bs.map V.ref).length = (akeys ws.falls).length := by rw [hk2.length, List.length_map]
  have x2 := x1.same s2
  have pf : p ∉ a.fp := x1.new hp
  refine ⟨p, rfl, ⟨bs.map V.ref, .of upd_same⟩, for_list (K := K) (a := p) (xs := bs.map V.ref) (fun i σ' H3 => Sh σ' ∧ H3 p = some (.lst (bs.map V.ref)) ∧ Stp (upd H1 p (.lst (bs.map V.ref))) H3 a a ∧ W P w H3 (cW K) a fx n (((akeys ws.falls).take i).foldl stepf ws))
    ⟨h0, upd_same, .same (.rf _) a, x2⟩ (fun i σ' H3 _ h => .of h.2.1) ?_ ?_⟩
  · rintro i v σ' H3 hi ⟨sh, hp3, st, x3⟩
    obtain ⟨k, hk', hv⟩ := hk2.getV hi
    rw [List.getElem?_map] at hk'
    obtain ⟨d, hd, rfl⟩ := Option.map_eq_some_iff.mp hk'
    have ht : (akeys ws.falls).take (i + 1) = (akeys ws.falls).take i ++ [d] := by rw [List.take_add_one, hd]; simp
    refine body _ d v σ' H3 _ sh x3 ((Stp.same (s1.tr s2) a).trans st) (pre i d hd) (KAt.keep st.tup _ _ hv) fun σ2 H4 sh2 st2 x4 => ?_
    refine ⟨sh2, st2.keep p _ hp3 pf, st.trans st2, ?_⟩
    rw [ht, List.foldl_append]
    exact x4
  · rintro σ' H3 ⟨sh, _, st, x3⟩
    rw [lb, List.take_length] at x3
    exact q σ' H3 sh ((Stp.same (s1.tr s2) a).trans st) x3
end
end CB
/-! CBM1 -/
set_option Elab.async false
set_option autoImplicit false
set_option linter.all false
set_option maxRecDepth 100000
set_option maxHeartbeats 2000000
/-! Walk.mourns, is_met. -/
namespace CB
open PySem PySem.Spec PyProof.Rows L2
open Evl (Ev EvT EvA EvO)
def inIv (day : Int) : NestedKey → Bool
  | .tup [.num i, .num j] => decide (i ≤ day) && decide (day ≤ j)
  | _ => false
section
variable {K : PySem.W.Frag} {σ : L2.St} {H : Hp} {ta tb tc td ty : TE} {d : Addr} {s : Str} {l : List NestedKey}
theorem eb_chain {i j k : Int} (ha : Ev ta σ H (.int i)) (hb : Ev tb σ H (.int j)) (hc : Ev tc σ H (.int k)) : Ev (tChain (rI0 fun i j => .bl (decide (i ≤ j))) (rI0 fun i j => .bl (decide (i ≤ j))) ta tb tc) σ H (.bl (decide (i ≤ j) && decide (j ≤ k))) := fun H1 e Q q =>
  ha H1 e _ fun H2 e2 => hb H2 (e.tr e2) _ fun H3 e3 => ⟨i, j, rfl, rfl, decide (i ≤ j), rfl, by
    cases h : decide (i ≤ j) with
    | true =>
      rw [if_pos rfl]
      rw [h] at q
      exact hc H3 ((e.tr e2).tr e3) _ fun H4 e4 => ⟨j, k, rfl, rfl, q H4 ((e2.tr e3).tr e4)⟩
    | false =>
      rw [if_neg Bool.false_ne_true]
      rw [h] at q
      exact q H3 (e2.tr e3)⟩
/-- d.get(s, []) walked -/
theorem src_get {kvs : List (L2.Key × V)} (hd : Ev td σ H (.ref d)) (hk : Ev ty σ H (.str s)) (e : H d = some (.dK kvs)) (h : (valV kvs (Sum.inr s) = none ∧ l = []) ∨ ∃ b xs, valV kvs (Sum.inr s) = some (.ref b) ∧ H b = some (.lst xs) ∧ KAll H xs l) :
    Src (iList K (tDGet2 td ty (tLst tNil))) σ H l := fun H1 s1 R r =>
  hd H1 s1 _ fun H2 s2 => ⟨d, rfl, .inl ⟨kvs, .inl ((s1.tr s2) _ _ e)⟩, hk H2 (s1.tr s2) _ fun H3 s3 => ⟨by decide, fun p hp => by
    have s13 : Same H H3 := (s1.tr s2).tr s3
    have s4 : Same H (upd H3 p (.lst [])) := s13.tr (.up hp)
    have s14 : Same H1 (upd H3 p (.lst [])) := (s2.tr s3).tr (.up hp)
    refine ⟨_, DGet.k (k := Sum.inr s) (s4 _ _ e), ?_⟩
    rcases h with ⟨h1, rfl⟩ | ⟨b, xs, h1, h2, h3⟩
    · rw [h1]
      exact ⟨p, rfl, ⟨[], .of upd_same⟩, r _ _ s14 (gives_list' (.of upd_same) .nil)⟩
    · rw [h1]
      exact ⟨b, rfl, ⟨xs, .of (s4 _ _ h2)⟩, r _ _ s14 (gives_list' (.of (s4 _ _ h2)) (h3.mono s4))⟩⟩⟩
end
section
variable {P : Program} {w : World} {K : PySem.W.Frag} {mg : Str → Option Value} {base : Heap} (T : Tp K mg)
include T
def spMourns (P : Program) (w : World) (C : Addr) : Sp := fun vs H Q _ => ∃ a fx n ws s d, vs = [.ref a.x, .str s, .int d] ∧ W P w H C a fx n ws ∧ ∀ H', Same H H' → Q (.bl (ws.mourns s d)) H'
theorem ok_mourns : Ok P w K mg base 1 ("Walk", some "mourns") ["self", "name", "day"] (spMourns P w (cW K)) := by
  refine ok_of T.f_Walk_mourns c_Walk_mourns (fun _ _ _ _ _ _ us hl => match us, hl with | [_, _, _], _ => rfl) (fun vs H Q E ⟨a, fx, n, ws, s, d, e, _⟩ => by rw [e]; rfl) (fun cdv A outer s0 H vs Q E hr h => ?_)
  obtain ⟨a, fx, n, ws, s, d, rfl, x, q⟩ := h
  have hu : _ + 1 < cLine := hu_of hr
  refine ⟨_, pss_one (ps_ret (pe_callB (cr_any rfl) (by rfl) T.b_any PyProof.Rows.boot_any (pa_cons (pe_lc (own := [("first", 3), ("last", 4)]) (g := gTup K 2 (gCons (gName 3) (gCons (gName 4) gNil)))
      (te := tChain (rI0 fun i j => .bl (decide (i ≤ j))) (rI0 fun i j => .bl (decide (i ≤ j))) (tVar 3) (tVar 2) (tVar 4)) rfl c_Walk_mourns.nd (pi_list (pe_dget2 hu (pe_fld (pv 0) rfl) (pv 1) (pe_lst pa_nil) ⟨rfl, rfl, rfl, rfl⟩))
      (blkOk_by (N := ["self", "name", "day", "first", "last"]) (sc := defScope s_Walk_mourns) (by decide +kernel)) (fun _ _ _ _ _ => pg_tup rfl (pgs_cons (pg_name (i := 3) c_Walk_mourns.nd rfl (.inl rfl)) (pgs_cons (pg_name (i := 4) c_Walk_mourns.nd rfl (.inl rfl)) pgs_nil)))
      (fun _ _ _ _ _ => pts_nil) (fun _ _ _ _ _ => pe_chain op_le op_le (pv 3) (pv 2) (pv 4))) pa_nil))), ?_⟩
  obtain ⟨km, hm1, hm2, hm3, hm4⟩ := x.mourned
  have e1 : ws.mourns s d = ((ws.mournOf s).map fun p => decide (p.1 ≤ d) && decide (d ≤ p.2)).any id := by
    unfold WS.mourns
    rw [List.any_map]
    rfl
  have e2 : ((ws.mournOf s).map fun p => decide (p.1 ≤ d) && decide (d ≤ p.2)).map V.bl = (((ws.mournOf s).map ivK).filter fun _ => true).map fun k => V.bl (inIv d k) := by
    rw [filt_true, List.map_map, List.map_map]
    rfl
  have hlen : (ws.mournOf s).length ≤ 40000 := by
    unfold WS.mournOf
    cases e : aget ws.mourned s with
    | none => exact Nat.zero_le _
    | some l =>
      obtain ⟨b, xs, h1, h2, h3, h4, h5⟩ := (hm3 s).2 l e
      have hx := x.le
      have h6 := h4.length
      rw [List.length_map] at h6
      show l.length ≤ 40000
      omega
  refine Evl.s_ret (ev_any ?_) fun H1 s1 => e1 ▸ q H1 s1
  rw [e2]
  refine el_lcV (src_get (x.e5 T (Evl.ev_var rfl)) (Evl.ev_var rfl) hm1 ?_) (by rw [List.length_map]; exact hlen) fun k hk H1 v s1 hv => ?_
  · unfold WS.mournOf
    cases e : aget ws.mourned s with
    | none => exact .inl ⟨(hm3 s).1 e, rfl⟩
    | some l =>
      obtain ⟨b, xs, h1, h2, h3, h4, h5⟩ := (hm3 s).2 l e
      exact .inr ⟨b, xs, h1, h3, h4⟩
  · obtain ⟨⟨i, j⟩, _, rfl⟩ := List.mem_map.mp hk
    obtain ⟨t, xs, rfl, h1, h2⟩ := hv.tupRef
    cases h2 with
    | cons g1 g2 =>
    cases g2 with
    | cons g2 g3 =>
    cases g3; cases g1; cases g2
    intro Q1 q1
    refine ⟨t, _, rfl, .of h1, rfl, _, _, rfl, _, _, rfl, rfl, q1 _ H1 (.rf _) rfl et_yes fun _ => ?_⟩
    exact eb_chain (Evl.ev_var rfl) (Evl.ev_var rfl) (Evl.ev_var rfl)

omit T in
theorem go_items {p : Pg} (h : p.isGo = true) : p.items = [.text p.kind, .num p.day, .text p.fst, .text p.snd] := by
  cases p <;> first
    | rfl
    | cases h
def spIsMet (P : Program) (w : World) (C : Addr) : Sp := fun vs H Q _ => ∃ a fx n ws v p, vs = [.ref a.x, v] ∧ W P w H C a fx n ws ∧ KAt H v (Pg.key p) ∧ p.isGo = true ∧ Pg.snd p ∈ akeys ws.homes ∧ ∀ H', Same H H' → Q (.bl (ws.isMet p)) H'
omit T in
theorem isMet_eq (ws : WS) (p : Pg) (h : p.isGo = true) : ws.isMet p = (decide (p.kind = "visit") && (decide (p.day % 7 ∈ ws.homeOf p.snd) && (!ws.mourns p.fst p.day && !ws.mourns p.snd p.day))) := by
  cases p <;> first
    | (cases h; done)
    | (show false = (decide (("card" : Str) = "visit") && _)
       rw [show decide (("card" : Str) = "visit") = false by decide +kernel]; rfl)
    | (show (decide _ && (!_ && !_)) = (decide (("visit" : Str) = "visit") && _)
       rw [show decide (("visit" : Str) = "visit") = true by decide +kernel]; rfl)
theorem ok_is_met : Ok P w K mg base 2 ("Walk", some "is_met") ["self", "page"] (spIsMet P w (cW K)) := by
  have G := ok_mourns (P := P) (w := w) (base := base) T
  obtain ⟨tw, hw⟩ := T.i_WEEK
  refine ok_of T.f_Walk_is_met c_Walk_is_met (fun _ _ _ _ _ _ us hl => match us, hl with | [_, _], _ => rfl) (fun vs H Q E ⟨a, fx, n, ws, v, p, e, _⟩ => by rw [e]; rfl) (fun cdv A outer s0 H vs Q E hr h => ?_)
  obtain ⟨a, fx, n, ws, v, p, rfl, x, hv, hg, hh, q⟩ := h
  have hu : _ + 1 < cLine := hu_of hr
  have hu2 := hr.units
  have hr1 : Room 1 _ := hr
  refine ⟨_, pss_cons (ps_asg (pv 1) (pg_tup rfl (pgs_cons (pg_name (i := 2) c_Walk_is_met.nd rfl (.inl rfl)) (pgs_cons (pg_name (i := 3) c_Walk_is_met.nd rfl (.inl rfl)) (pgs_cons (pg_name (i := 4) c_Walk_is_met.nd rfl (.inl rfl)) (pgs_cons (pg_name (i := 5) c_Walk_is_met.nd rfl (.inl rfl)) pgs_nil))))))
    (pss_cons (ps_if (pw_or (pt_cmpR op_ne (pv 2) pe_str (nomark _)) (pw_or1 (pt_cmpR (op_notInN hu2) (pe_op op_mod (pv 3) (pe_glob (v := .int 7) (by rfl) hw ⟨_, rfl⟩)) (pe_dget hu (pe_fld (pv 0) rfl) (pv 5) (fun _ _ => rfl)) (by with_unfolding_all rfl)))).pt
      (pss_one (ps_ret pe_bl)) pss_nil)
    (pss_one (ps_ret (pe_and (pe_not (pe_mt G hr1 (pv 0) T.cl_Walk T.m_Walk_mourns (pa_cons (pv 4) (pa_cons (pv 3) pa_nil)))) (pe_one (pe_not (pe_mt G hr1 (pv 0) T.cl_Walk T.m_Walk_mourns (pa_cons (pv 5) (pa_cons (pv 3) pa_nil))))))))), ?_⟩
  obtain ⟨t, xs, rfl, h1, h2⟩ := hv.tupRef
  rw [go_items hg] at h2
  cases h2 with
  | cons g1 h2 =>
  cases h2 with
  | cons g2 h2 =>
  cases h2 with
  | cons g3 h2 =>
  cases h2 with
  | cons g4 h2 =>
  cases h2; cases g1; cases g2; cases g3; cases g4
  refine ⟨_, rfl, t, _, rfl, .of h1, rfl, _, _, rfl, _, _, rfl, _, _, rfl, _, _, rfl, rfl, ?_⟩
  obtain ⟨kh, hk1, hk2, hk3⟩ := x.homes
  obtain ⟨l, hl⟩ : ∃ l, aget ws.homes p.snd = some l := Option.isSome_iff_exists.mp ((aget_some_iff _ _).mpr hh)
  obtain ⟨v6, z1, z2⟩ := (hk3 p.snd).2 l hl
  have ho : ws.homeOf p.snd = l := by unfold WS.homeOf; rw [hl]; rfl
  have em := isMet_eq ws p hg
  rw [ho] at em
  have inn : decide (NestedKey.num (p.day % 7) ∈ nums l) = decide (p.day % 7 ∈ l) := decide_eq_decide.mpr (by unfold nums; rw [List.mem_map]; exact ⟨fun ⟨i, a, b⟩ => by injection b with b; exact b ▸ a, fun a => ⟨_, a, rfl⟩⟩)
  refine Evl.s_if (b := !decide (p.kind = "visit") || !decide (p.day % 7 ∈ l)) (Evl.et_or (et_T (eb_neT (Evl.ev_var rfl) Evl.ev_c)) fun _ => et_T (Evl.ev_is (eb_inK (neg := true) (ek_num (Evl.ev_op (Evl.ev_var rfl) Evl.ev_c (Evl.rv_I (C := fun _ j => 0 < j) (g := fun i j => .int (i % j)) (show (0 : Int) < 7 by decide)))) (ek_of (ev_dget (x.e4 T (Evl.ev_var rfl)) (Evl.ev_var rfl) hk1 z1) z2) (by show NestedKey.depthAll (l.map .num) ≤ 30; rw [nums_depth]; decide)) (by rw [if_pos rfl, inn]))) (fun hb H1 s1 => ?_) (fun hb H1 s1 => ?_)
  · have e : ws.isMet p = false := by
      rw [em]
      cases h : decide (p.kind = "visit") with
      | false => rfl
      | true =>
        rw [h] at hb
        have hb' : decide (p.day % 7 ∈ l) = false := by simpa using hb
        rw [hb']; rfl
    exact Evl.s_ret Evl.ev_c fun H2 s2 => e ▸ q H2 (s1.tr s2)
  · rw [Bool.or_eq_false_iff] at hb
    have e : ws.isMet p = (!ws.mourns p.fst p.day && !ws.mourns p.snd p.day) := by
      have e1 : decide (p.kind = "visit") = true := by simpa using hb.1
      have e2 : decide (p.day % 7 ∈ l) = true := by simpa using hb.2
      rw [em, e1, e2]; rfl
    have mo : ∀ {nm : Str} {i j : Nat} {σ : L2.St} {H2 : Hp}, Same H1 H2 → σ[0]? = some (some (V.ref a.x)) → σ[i]? = some (some (V.str nm)) → σ[j]? = some (some (V.int p.day)) → Ev (tMeth (cW K) "mourns" (spMourns P w (cW K)) [] E0 (tVar 0) (tCons (tVar i) (tCons (tVar j) tNil))) σ H2 (.bl (ws.mourns nm p.day)) :=
      fun {nm i j σ H2} s2 z0 zi zj H3 s3 Q3 q3 => me_V (Evl.ev_var z0) (x.same (s1.tr (Same.tr s2 s3))).ins (a.m1 _ _ _ _) (Evl.ea_cons (Evl.ev_var zi) (Evl.ea_cons (Evl.ev_var zj) Evl.ea_nil)) fun H4 s4 => ⟨a, fx, n, ws, nm, p.day, rfl, x.same (s1.tr (Same.tr s2 (s3.tr s4))), fun H5 s5 => q3 H5 (s4.tr s5)⟩
    refine s_nil ?_
    dsimp only
    exact Evl.s_ret (Evl.ev_andV (Evl.ev_notV (mo (.rf _) rfl rfl rfl)) fun _ => Evl.ev_notV (mo (.rf _) rfl rfl rfl)) fun H2 s2 => e ▸ q H2 (s1.tr s2)
end
end CB
/-! CBM2 -/
set_option Elab.async false
set_option autoImplicit false
set_option linter.all false
set_option maxRecDepth 100000
set_option maxHeartbeats 2000000
/-! The walk's object written: statements; Walk.lay, fall. -/
namespace CB
open PySem PySem.Spec PyProof.Rows L2
open Evl (Ev EvT EvA EvO)
theorem dueKey_tup (d : Due) : ∃ ks, dueKey d = .tup ks := ⟨_, rfl⟩
theorem due_depth8 (d : Due) : (dueKey d).depth ≤ 8 := Nat.le_trans (dueKey_depth d) (by decide)
theorem pg_depth8 (p : Pg) : p.key.depth ≤ 8 := Nat.le_trans p.key_depth (by decide)
def dItems (d : Due) : List NestedKey := [.text d.1, .text d.2.1, d.2.2.key]
theorem dueKey_eq (d : Due) : dueKey d = .tup (dItems d) := rfl
theorem smallN {n : Nat} (h : n ≤ 4000) : n < sizeLine := Nat.lt_of_le_of_lt h (by decide)
section
variable {P : Program} {w : World} {K : PySem.W.Frag} {mg : Str → Option Value} {H H' : Hp} {a : WAd} {fx : WFix} {n : Nat} {ws : WS} {σ : L2.St} {i : Nat} {ta td ty tv : TE} {D : Ends} {d : Due} {l : List Int} {Q : VK}
theorem eb_isn {v : V} (h : Ev ta σ H v) : Ev (tIsN ta) σ H (.bl (decide (v = .non))) := fun H1 e Q q => h H1 e _ q
theorem eb_notn {v : V} (h : Ev ta σ H v) : Ev (tNotN ta) σ H (.bl (!decide (v = .non))) := fun H1 e Q q => h H1 e _ q
theorem ek_fget (x : W P w H (cW K) a fx n ws) (h : Ev td σ H (.ref a.falls)) (hk : EvK ty σ H (dueKey d)) (hd : d ∈ akeys ws.falls) : EvK (tNGet P w td ty) σ H (.tup (nums (ws.fallsOf d))) := by
  obtain ⟨kvs, dn, r⟩ := x.falls
  obtain ⟨l, hl⟩ := Option.isSome_iff_exists.mp ((aget_some_iff _ _).mpr hd)
  obtain ⟨v, h1, h2⟩ := (falls_get r d).2 l hl
  have e : ws.fallsOf d = l := by unfold WS.fallsOf; rw [hl]; rfl
  rw [e]
  exact ek_nget h hk dn (due_depth8 d) h1 h2
def getK (ws : WS) (d : Due) : NestedKey := match aget ws.falls d with
  | none => .none
  | some l => .tup (nums l)
theorem ek_fget2 (x : W P w H (cW K) a fx n ws) (h : Ev td σ H (.ref a.falls)) (hk : EvK ty σ H (dueKey d)) : EvK (tNGet2 P w td ty (tC .non)) σ H (getK ws d) := fun H1 e Q q =>
  h H1 e _ fun H2 e2 => by
    obtain ⟨kvs, dn, r⟩ := (x.same (e.tr e2)).falls
    refine ⟨a.falls, rfl, ⟨kvs, dn⟩, hk H2 (e.tr e2) _ fun u H3 e3 hu => ⟨kvs, dItems d, dn.same e3, hu, due_depth8 d, ?_⟩⟩
    have g := falls_get r d
    unfold getK at q
    cases hl : aget ws.falls d with
    | none =>
      rw [hl] at q
      rw [← dueKey_eq, g.1 hl]
      exact q .non H3 (e2.tr e3) .none
    | some l =>
      rw [hl] at q
      obtain ⟨v, h1, h2⟩ := g.2 l hl
      rw [← dueKey_eq, h1]
      exact q v H3 (e2.tr e3) (h2.mono e3)
theorem ek_sget (x : W P w H (cW K) a fx n ws) (h : Ev td σ H (.ref a.sorts)) {p : Pg} (hk : EvK ty σ H p.key) (hp : p ∈ akeys ws.sorts) : EvK (tNGet P w td ty) σ H (.text (ws.sortOf p)) := by
  obtain ⟨s, hs⟩ := Option.isSome_iff_exists.mp ((aget_some_iff _ _).mpr hp)
  have e : ws.sortOf p = s := by unfold WS.sortOf; rw [hs]; rfl
  rw [e]
  exact ek_nget h hk x.sorts (pg_depth8 p) ((sorts_get _ _).trans (by rw [hs]; rfl)) (.text s)
/-- self.falls[d] = l -/
theorem s_fput (x : W P w H (cW K) a fx n ws) (hv : EvK tv σ H (.tup (nums l))) (h : Ev td σ H (.ref a.falls)) (hk : EvK ty σ H (dueKey d)) (hl : ws.falls.length ≤ 4000) (q : ∀ H', Stp H H' a a → W P w H' (cW K) a fx n { ws with falls := aput ws.falls d l } → D.nx σ H') : sNPut P w td ty tv D σ H :=
  hv H (.rf _) _ fun v H1 s1 hv1 => h H1 s1 _ fun H2 s2 => hk H2 (s1.tr s2) _ fun y H3 s3 hy => by
    have s13 : Same H1 H3 := Same.tr s2 s3
    have x3 := x.same (s1.tr s13)
    obtain ⟨kvs, dn, r⟩ := x3.falls
    refine ⟨a.falls, kvs, dItems d, rfl, dn, hy, due_depth8 d, smallN (by rw [falls_len r]; exact hl), fun H' k dn' => ?_⟩
    have kp : Kp H3 H' a.falls := fun b u hb e => by rw [k b hb]; exact e
    have m6 : a.falls ∈ a.fp := a.mem.2.2.2.2.2.1
    have t := x3.tupLe m6 kp
    refine q H' ((Stp.same (s1.tr s13) a).trans (x3.stp m6 kp)) (x3.wFalls kp ⟨_, dn', ?_⟩)
    exact Paired.mapP (falls_put r d (hv1.mono s13)) fun _ _ z => ⟨z.1, KAt.keep t _ _ z.2⟩
/-- self.sorts[p] = s -/
theorem s_sput (x : W P w H (cW K) a fx n ws) {p : Pg} {s : Str} (hv : Ev tv σ H (.str s)) (h : Ev td σ H (.ref a.sorts)) (hk : EvK ty σ H p.key) (hl : ws.sorts.length + 1 ≤ n) (q : ∀ H', Stp H H' a a → W P w H' (cW K) a fx n { ws with sorts := aput ws.sorts p s } → D.nx σ H') : sNPut P w td ty tv D σ H :=
  hv H (Evl.Ex.refl _) _ fun H1 s1 => h H1 s1 _ fun H2 s2 => hk H2 (s1.tr s2) _ fun y H3 s3 hy => by
    have s13 : Same H H3 := s1.tr (Same.tr s2 s3)
    have x3 := x.same s13
    refine ⟨a.sorts, sortsD ws.sorts, p.items, rfl, x3.sorts, hy, pg_depth8 p, smallN (by unfold sortsD; rw [List.length_map]; have := x.le; omega), fun H' k dn' => ?_⟩
    have kp : Kp H3 H' a.sorts := fun b u hb e => by rw [k b hb]; exact e
    have m5 : a.sorts ∈ a.fp := a.mem.2.2.2.2.1
    refine q H' ((Stp.same s13 a).trans (x3.stp m5 kp)) (x3.wSorts kp ?_ ?_)
    · have z := sorts_put ws.sorts p s
      unfold Pg.key at z
      rw [z] at dn'
      exact dn'
    · have := length_putK (sortsD ws.sorts) p.key (V.str s)
      rw [sorts_put] at this
      unfold sortsD at this
      rw [List.length_map, List.length_map] at this
      omega
/-- a counter -/
theorem s_cnt (x : W P w H (cW K) a fx n ws) {f : Str} {y m c s g : Int} (hv : Ev tv σ H (.int y)) (h : Ev ta σ H (.ref a.x)) (hc : Cls K (cW K)) (hn : NoAttr K (cW K) f) (hp : putF f (.int y) (a.fs ws.made ws.copied ws.struck ws.merged) = a.fs m c s g)
    (q : ∀ H', Stp H H' a a → W P w H' (cW K) a fx n { ws with made := m, copied := c, struck := s, merged := g } → D.nx σ H') : sFld K ta tv f D σ H :=
  hv H (Evl.Ex.refl _) _ fun H1 s1 => h H1 s1 _ fun H2 s2 => by
    have s12 : Same H H2 := s1.tr s2
    have x2 := x.same s12
    refine ⟨a.x, _, a.dx, _, rfl, x2.ins, hc, hn, a.few _ _ _ _, ?_⟩
    rw [hp]
    have kp : Kp H2 (upd H2 a.x (.ins (cW K) a.dx (a.fs m c s g))) a.x := fun b u hb e => by rw [upd_ne hb]; exact e
    have m1 : a.x ∈ a.fp := a.mem.1
    exact q _ ((Stp.same s12 a).trans (x2.stp m1 kp)) (x2.wIns kp upd_same)
/-- self.falls.pop(d) -/
theorem e_fpop (x : W P w H (cW K) a fx n ws) (h : Ev td σ H (.ref a.falls)) (hk : EvK ty σ H (dueKey d)) (hd : d ∈ akeys ws.falls) (q : ∀ v H', Stp H H' a a → W P w H' (cW K) a fx n { ws with falls := adel ws.falls d } → KAt H' v (.tup (nums (ws.fallsOf d))) → Q v H') : tNPop P w td ty σ H Q :=
  h H (Evl.Ex.refl _) _ fun H1 s1 => by
    obtain ⟨kvs, dn, r⟩ := (x.same s1).falls
    refine ⟨a.falls, rfl, ⟨kvs, dn⟩, hk H1 s1 _ fun y H2 s2 hy => ?_⟩
    have s12 : Same H H2 := s1.tr s2
    have x2 := x.same s12
    obtain ⟨l, hl⟩ := Option.isSome_iff_exists.mp ((aget_some_iff _ _).mpr hd)
    obtain ⟨v, h1, h2⟩ := (falls_get r d).2 l hl
    have e : ws.fallsOf d = l := by unfold WS.fallsOf; rw [hl]; rfl
    rw [e] at q
    refine ⟨kvs, dItems d, v, dn.same s2, hy, due_depth8 d, h1, fun H' k dn' => ?_⟩
    have kp : Kp H2 H' a.falls := fun b u hb e => by rw [k b hb]; exact e
    have m6 : a.falls ∈ a.fp := a.mem.2.2.2.2.2.1
    have t := x2.tupLe m6 kp
    refine q v H' ((Stp.same s12 a).trans (x2.stp m6 kp)) (x2.wFalls kp ⟨_, dn', ?_⟩) (KAt.keep t _ _ (h2.mono s2))
    exact Paired.mapP (falls_drop (Paired.mapP r fun _ _ z => ⟨z.1, z.2.mono s2⟩) d) fun _ _ z => ⟨z.1, KAt.keep t _ _ z.2⟩
end
section
variable {P : Program} {w : World} {K : PySem.W.Frag} {mg : Str → Option Value} {base : Heap} (T : Tp K mg)
include T
def spLay (P : Program) (w : World) (C : Addr) : Sp := fun vs H Q _ => ∃ a fx n ws v d u f, vs = [.ref a.x, v, u] ∧ W P w H C a fx n ws ∧ KAt H v (dueKey d) ∧ KAt H u (.tup (nums f)) ∧ ws.falls.length ≤ 4000 ∧ ∀ H', Stp H H' a a → W P w H' C a fx n (ws.lay d f) → Q .non H'
theorem ok_lay : Ok P w K mg base 2 ("Walk", some "lay") ["self", "due", "falls"] (spLay P w (cW K)) := by
  have G := ok_stays (P := P) (w := w) (base := base) T
  refine ok_of T.f_Walk_lay c_Walk_lay (fun _ _ _ _ _ _ us hl => match us, hl with | [_, _, _], _ => rfl) (fun vs H Q E ⟨a, fx, n, ws, v, d, u, f, e, _⟩ => by rw [e]; rfl) (fun cdv A outer s0 H vs Q E hr h => ?_)
  obtain ⟨a, fx, n, ws, v, d, u, f, rfl, x, hv, hf, hl, q⟩ := h
  have hu := hr.units
  have hr1 : Room 1 _ := hr
  refine ⟨_, pss_cons (ps_set (i := 3) c_Walk_lay.nd rfl (.inl rfl) (pe_nget2 hu (pe_fld (pv 0) rfl) (pv 1) pe_non ⟨rfl, rfl, rfl, rfl⟩))
    (pss_cons (ps_if (pt_cmp (pc_notN (pv 3))) (pss_one (ps_fld (pv 0) (pe_op op_add (pe_fld (pv 0) rfl) pe_int) rfl)) pss_nil)
    (pss_one (ps_if (pw_or (pt_cmp (pc_isN (pv 3))) (pw_or1 (pt_not (pt_val (pe_fn G hr1 (by rfl) T.g_stays (pa_cons (pv 3) (pa_cons (pv 2) pa_nil))))))).pt (pss_one (ps_nput hu (pe_fld (pv 0) rfl) (pv 1) (pv 2) rfl)) pss_nil))), ?_⟩
  refine s_asgK (ek_fget2 x (x.e7 T (Evl.ev_var rfl)) (ek_var rfl hv)) fun th H1 s1 hth => ?_
  have x1 := x.same s1
  unfold getK at hth
  cases hg : aget ws.falls d with
  | none =>
    rw [hg] at hth
    cases hth
    have el : ws.lay d f = { ws with falls := aput ws.falls d f } := by unfold WS.lay; rw [hg]
    dsimp only
    refine Evl.s_if (b := false) (et_B (eb_notn (v := .non) (Evl.ev_var rfl))) (fun hb => nomatch hb) (fun _ H2 s2 => ?_)
    refine s_nil ?_
    dsimp only
    have s12 : Same H H2 := s1.tr s2
    refine Evl.s_if (b := true) (Evl.et_or (a := true) (b := true) (et_B (eb_isn (v := .non) (Evl.ev_var rfl))) fun hb => nomatch hb) (fun _ H3 s3 => ?_) (fun hb => nomatch hb)
    have x3 := x.same (s12.tr s3)
    exact s_fput x3 (ek_var rfl (hf.mono (s12.tr s3))) (x3.e7 T (Evl.ev_var rfl)) (ek_var rfl (hv.mono (s12.tr s3))) hl fun H' st x' => q H' ((Stp.same (s12.tr s3) a).trans st) (el ▸ x')
  | some l =>
    rw [hg] at hth
    obtain ⟨tb, txs, rfl, _⟩ := hth.tupRef
    dsimp only
    refine Evl.s_if (b := true) (et_B (eb_notn (v := .ref tb) (Evl.ev_var rfl))) (fun _ H2 s2 => ?_) (fun hb => nomatch hb)
    have s12 : Same H H2 := s1.tr s2
    have x2 := x.same s12
    refine s_cnt x2 (Evl.ev_op (x2.ed T (Evl.ev_var rfl)) Evl.ev_c Evl.rv_I0) (Evl.ev_var rfl) T.cl_Walk T.n_Walk_merged (a.pd _ _ _ _ _) fun H3 st3 x3 => ?_
    have s03 := (Stp.same s12 a).trans st3
    have hth3 := KAt.keep st3.tup _ _ (hth.mono s2)
    refine Evl.s_if (b := !stays l f) (Evl.et_or (a := false) (b := !stays l f) (et_B (eb_isn (v := .ref tb) (Evl.ev_var rfl))) fun _ => Evl.et_not (et_B (eb_call (eks_cons (ek_var rfl hth3) (eks_cons (ek_var rfl (KAt.keep s03.tup _ _ hf)) eks_nil)) ⟨l, f, rfl, rfl⟩))) (fun hb H4 s4 => ?_) (fun hb H4 s4 => ?_)
    · have x4 := x3.same s4
      have s04 := s03.trans (.same s4 a)
      have el : ws.lay d f = { ws with merged := ws.merged + 1, falls := aput ws.falls d f } := by
        unfold WS.lay
        rw [hg]
        dsimp only
        rw [if_neg (by simpa using hb)]
      exact s_fput x4 (ek_var rfl (KAt.keep s04.tup _ _ hf)) (x4.e7 T (Evl.ev_var rfl)) (ek_var rfl (KAt.keep s04.tup _ _ hv)) hl fun H' st x' => q H' (s04.trans st) (el ▸ x')
    · have x4 := x3.same s4
      have s04 := s03.trans (.same s4 a)
      have el : ws.lay d f = { ws with merged := ws.merged + 1 } := by
        unfold WS.lay
        rw [hg]
        dsimp only
        rw [if_pos (by simpa using hb)]
      exact q H4 s04 (el ▸ x4)
end
end CB
/-! CBM3 -/
set_option Elab.async false
set_option autoImplicit false
set_option linter.all false
set_option maxRecDepth 100000
set_option maxHeartbeats 2000000
/-! Walk.fall. -/
namespace CB
open PySem PySem.Spec PyProof.Rows L2
open Evl (Ev EvT EvA EvO)
section
variable {K : PySem.W.Frag} {σ : L2.St} {H : Hp} {ta tb : TE} {ks ls : List NestedKey}
theorem ek_catA (ha : EvK ta σ H (.tup ks)) (hb : EvK tb σ H (.tup ls)) (hl : ks.length + ls.length ≤ 100000) : EvK (tOp (rCatA K) ta tb) σ H (.tup (ks ++ ls)) := fun H1 e Q q =>
  ha H1 e _ fun v H2 e2 hv => hb H2 (e.tr e2) _ fun u H3 e3 hu => by
    have hv' := hv.mono e3
    obtain ⟨a, xs, rfl, g1, g2⟩ := hv'.tupRef
    obtain ⟨b, ys, rfl, f1, f2⟩ := hu.tupRef
    refine ⟨a, b, xs, ys, rfl, rfl, .of g1, .of f1, ?_, fun z => ?_, fun _ z => ?_, fun _ _ p hp => ?_⟩
    · rw [g2.length, f2.length]; exact Evl.sz_of hl
    · subst z
      cases g2
      exact q _ H3 (e2.tr e3) hu
    · subst z
      cases f2
      rw [List.append_nil] at q
      exact q _ H3 (e2.tr e3) hv'
    · exact q _ _ ((e2.tr e3).tr (.up hp)) (.tup upd_same ((g2.append f2).mono (.up hp)))
theorem d0 (d : Due) : atI (dItems d) 0 = some (.text d.1) := rfl
theorem d1 (d : Due) : atI (dItems d) 1 = some (.text d.2.1) := rfl
theorem d2 (d : Due) : atI (dItems d) 2 = some d.2.2.key := rfl
end
section
variable {P : Program} {w : World} {K : PySem.W.Frag} {mg : Str → Option Value} {base : Heap} (T : Tp K mg)
include T
theorem me_mourns {a : WAd} {fx : WFix} {n : Nat} {ws : WS} {σ : L2.St} {H : Hp} {td ty : TE} {nm : Str} {day : Int} (x : W P w H (cW K) a fx n ws) (h0 : σ[0]? = some (some (V.ref a.x))) (h1 : Ev td σ H (.str nm)) (h2 : Ev ty σ H (.int day)) : Ev (tMeth (cW K) "mourns" (spMourns P w (cW K)) [] E0 (tVar 0) (tCons td (tCons ty tNil))) σ H (.bl (ws.mourns nm day)) :=
  fun H3 s3 Q3 q3 => me_V (Evl.ev_var h0) (x.same s3).ins (a.m1 _ _ _ _) (Evl.ea_cons (fun H4 s4 => h1 H4 (Same.tr s3 s4)) (Evl.ea_cons (fun H4 s4 => h2 H4 (Same.tr s3 s4)) Evl.ea_nil)) fun H4 s4 => ⟨a, fx, n, ws, nm, day, rfl, x.same (Same.tr s3 s4), fun H5 s5 => q3 H5 (s4.tr s5)⟩
def spFall (P : Program) (w : World) (C : Addr) : Sp := fun vs H Q _ => ∃ a fx n ws d, vs = [.ref a.x, .int d] ∧ W P w H C a fx n ws ∧ ws.falls.length ≤ 4000 ∧ (∀ x ∈ akeys ws.falls, x.2.2 ∈ akeys ws.sorts) ∧ fx.t.1 ≤ 1000 ∧ fx.t.2 ≤ 1000 ∧ ∀ H', Stp H H' a a → W P w H' C a fx n (ws.fall fx.t d) → Q .non H'
theorem ok_fall : Ok P w K mg base 2 ("Walk", some "fall") ["self", "day"] (spFall P w (cW K)) := by
  have G1 := ok_term_of (P := P) (w := w) (base := base) T
  have G2 := ok_page_day (P := P) (w := w) (base := base) T
  have G3 := ok_mourns (P := P) (w := w) (base := base) T
  refine ok_of T.f_Walk_fall c_Walk_fall (fun _ _ _ _ _ _ us hl => match us, hl with | [_, _], _ => rfl) (fun vs H Q E ⟨a, fx, n, ws, d, e, _⟩ => by rw [e]; rfl) (fun cdv A outer s0 H vs Q E hr h => ?_)
  obtain ⟨a, fx, n, ws, day, rfl, x, hl, hs, ht1, ht2, q⟩ := h
  have hu := hr.units
  have hr1 : Room 1 _ := hr
  refine ⟨_, pss_one (ps_for .never rfl (pi_list (pe_callTy (call_listN rfl) (by rfl) T.b_list PyProof.Rows.boot_list (pa_cons (pe_fld (pv 0) rfl) pa_nil))) (pg_name (i := 2) c_Walk_fall.nd rfl (.inl rfl))
    (pss_cons (ps_set (i := 3) c_Walk_fall.nd rfl (.inl rfl) (pe_nget hu (pe_fld (pv 0) rfl) (pv 2) (fun _ _ => rfl)))
    (pss_cons (ps_set (i := 4) c_Walk_fall.nd rfl (.inl rfl) (pe_op op_sub (pe_fn G1 hr1 (by rfl) T.g_term_of (pa_cons (pe_fld (pv 0) rfl) (pa_cons (pe_nget hu (pe_fld (pv 0) rfl) (pe_ix ix_tup (pv 2) pe_int (fun _ _ => rfl)) (fun _ _ => rfl)) pa_nil))) (pe_callB call_len_seq (by rfl) T.b_len PySem.boot_len (pa_cons (pv 3) pa_nil))))
    (pss_one (ps_if (pw_and (pt_cmpR op_gt (pv 4) pe_int (nomark _)) (pw_and (pt_cmpR op_lt (pe_fn G2 hr1 (by rfl) T.g_page_day (pa_cons (pe_ix ix_tup (pv 2) pe_int (fun _ _ => rfl)) pa_nil)) (pv 1) (nomark _)) (pw_and (pt_not (pt_val (pe_mt G3 hr1 (pv 0) T.cl_Walk T.m_Walk_mourns (pa_cons (pe_ix ix_tup (pv 2) pe_int (fun _ _ => rfl)) (pa_cons (pv 1) pa_nil))))) (pw_and1 (pt_not (pt_val (pe_mt G3 hr1 (pv 0) T.cl_Walk T.m_Walk_mourns (pa_cons (pe_ix ix_tup (pv 2) pe_int (fun _ _ => rfl)) (pa_cons (pv 1) pa_nil))))))))).pt
      (pss_one (ps_nput hu (pe_fld (pv 0) rfl) (pv 2) (pe_op op_catA (pv 3) (pe_tup (pa_cons (pv 1) pa_nil))) rfl)) pss_nil))))), ?_⟩
  refine s_loop (Sh := fun σ => σ.length = 5 ∧ σ[0]? = some (some (.ref a.x)) ∧ σ[1]? = some (some (.int day))) (Pre := fun ws' d => d ∈ akeys ws'.falls ∧ d.2.2 ∈ akeys ws'.sorts ∧ ws'.falls.length ≤ 4000) (stepf := WS.fallStep fx.t day) x (x.e7 T (Evl.ev_var rfl)) ⟨rfl, rfl, rfl⟩ hl ?_ ?_ fun σ2 H2 _ st x' => q H2 st x'
  · intro i d hd
    obtain ⟨i1, i2, _⟩ := fall_fold fx.t day ((akeys ws.falls).take i) ws (fun d hd => List.mem_of_mem_take hd)
    have hd' := List.mem_of_getElem? hd
    refine ⟨by rw [i2]; exact hd', by rw [i1.sorts]; exact hs d hd', ?_⟩
    rw [← keys_len, i2, keys_len]; exact hl
  · rintro ws' d v σ' H1 D' ⟨sh0, sh1, sh2⟩ x1 st1 ⟨pd, ps, pl⟩ hv q1
    obtain ⟨σ0, σ1, σ2, σ3, σ4, rfl⟩ : ∃ a b c d e, σ' = [a, b, c, d, e] := by
      match σ', sh0 with
      | [a, b, c, d, e], _ => exact ⟨a, b, c, d, e, rfl⟩
    cases sh1
    cases sh2
    refine s_asgK (ek_fget x1 (x1.e7 T (Evl.ev_var rfl)) (ek_var rfl hv) pd) fun vf H2 s2 hvf => ?_
    have x2 := x1.same s2
    have hv2 := hv.mono s2
    have nl : (nums (ws'.fallsOf d)).length = (ws'.fallsOf d).length := List.length_map _
    refine Evl.s_asg (Evl.ev_op (EvK.num (ek_call (eks_cons (ek_of (x2.e2 T (Evl.ev_var rfl)) x2.tm) (eks_cons (ek_sget x2 (x2.e6 T (Evl.ev_var rfl)) (ek_ix (ek_var rfl hv2) Evl.ev_c (d2 d)) ps) eks_nil)) ⟨fx.t, ws'.sortOf d.2.2, rfl, rfl⟩)) (ek_len (ek_var rfl hvf)) Evl.rv_I0) fun H3 s3 => ?_
    have s13 : Same H1 H3 := s2.tr s3
    have x3 := x1.same s13
    have hv3 := hv.mono s13
    have hvf3 := hvf.mono s3
    rw [nl]
    refine Evl.s_if (Evl.et_and (et_T (eb_gtI (Evl.ev_var rfl) Evl.ev_c)) fun _ => Evl.et_and (et_T (eb_ltI (EvK.num (ek_call (eks_cons (ek_ix (ek_var rfl hv3) Evl.ev_c (d2 d)) eks_nil) ⟨_, rfl, rfl⟩)) (Evl.ev_var rfl))) fun _ => Evl.et_and (Evl.et_not (et_B (me_mourns T x3 rfl (EvK.text (ek_ix (ek_var rfl hv3) Evl.ev_c (d0 d))) (Evl.ev_var rfl)))) fun _ => Evl.et_not (et_B (me_mourns T x3 rfl (EvK.text (ek_ix (ek_var rfl hv3) Evl.ev_c (d1 d))) (Evl.ev_var rfl)))) (fun hb H4 s4 => ?_) (fun hb H4 s4 => ?_)
    · simp only [Bool.and_eq_true, decide_eq_true_eq, Bool.not_eq_true'] at hb
      have x4 := x3.same s4
      have s14 := s13.tr s4
      have hlt : (ws'.fallsOf d).length ≤ 4000 := by
        have z := hb.1
        have z2 : termOf fx.t (ws'.sortOf d.2.2) ≤ 1000 := by unfold termOf; split <;> assumption
        omega
      have e : WS.fallStep fx.t day ws' d = { ws' with falls := aput ws'.falls d (ws'.fallsOf d ++ [day]) } := by unfold WS.fallStep; rw [if_pos hb]
      have e2 : nums (ws'.fallsOf d ++ [day]) = nums (ws'.fallsOf d) ++ [.num day] := by unfold nums; rw [List.map_append]; rfl
      exact s_fput (l := ws'.fallsOf d ++ [day]) x4 (by rw [e2]; exact ek_catA (ek_var rfl (hvf3.mono s4)) (ek_tup (eks_cons (ek_num (Evl.ev_var rfl)) eks_nil)) (by rw [nl]; show _ + 1 ≤ _; omega)) (x4.e7 T (Evl.ev_var rfl)) (ek_var rfl (hv.mono s14)) pl fun H5 st5 x5 => q1 _ H5 ⟨rfl, rfl, rfl⟩ ((Stp.same s14 a).trans st5) (e ▸ x5)
    · have e : WS.fallStep fx.t day ws' d = ws' := by
        unfold WS.fallStep
        rw [if_neg]
        intro z
        rw [decide_eq_true z.1, decide_eq_true z.2.1, z.2.2.1, z.2.2.2] at hb
        cases hb
      refine s_nil ?_
      exact q1 _ H4 ⟨rfl, rfl, rfl⟩ (.same (s13.tr s4) a) (by rw [e]; exact x3.same s4)
end
end CB
/-! CBM4 -/
set_option Elab.async false
set_option autoImplicit false
set_option linter.all false
set_option maxRecDepth 100000
set_option maxHeartbeats 2000000
/-! Walk.part, Walk.join. -/
namespace CB
open PySem PySem.Spec PyProof.Rows L2
open Evl (Ev EvT EvA EvO)
theorem aput_len {κ β : Type} [DecidableEq κ] (m : List (κ × β)) (k : κ) (v : β) : (aput m k v).length ≤ m.length + 1 := by
  by_cases h : k ∈ akeys m
  · rw [length_aput_has v h]; omega
  · rw [length_aput_new v h]; omega
theorem part_keep (a b : Str) : ∀ (L : List Due) (ws : WS), (∀ k ∈ akeys ws.falls, k ∈ akeys (L.foldl (WS.partStep a b) ws).falls) ∧ (L.foldl (WS.partStep a b) ws).falls.length ≤ ws.falls.length + L.length
  | [], ws => ⟨fun _ h => h, Nat.le_refl _⟩
  | d :: L, ws => by
    rw [List.foldl_cons]
    obtain ⟨i1, i2⟩ := part_keep a b L (WS.partStep a b ws d)
    have s1 : ∀ k ∈ akeys ws.falls, k ∈ akeys (WS.partStep a b ws d).falls := fun k hk => by
      unfold WS.partStep
      split
      · exact mem_akeys_aput.mpr (.inr hk)
      · exact hk
    have s2 : (WS.partStep a b ws d).falls.length ≤ ws.falls.length + 1 := by
      unfold WS.partStep
      split
      · exact aput_len _ _ _
      · omega
    exact ⟨fun k hk => i1 k (s1 k hk), by rw [List.length_cons]; omega⟩
theorem lay_keep (ws : WS) (d : Due) (f : List Int) : (∀ k ∈ akeys ws.falls, k ∈ akeys (ws.lay d f).falls) ∧ (ws.lay d f).falls.length ≤ ws.falls.length + 1 := by
  unfold WS.lay
  split
  · exact ⟨fun k hk => mem_akeys_aput.mpr (.inr hk), aput_len _ _ _⟩
  · split
    · exact ⟨fun k hk => hk, Nat.le_succ _⟩
    · exact ⟨fun k hk => mem_akeys_aput.mpr (.inr hk), aput_len _ _ _⟩
theorem adel_len {κ β : Type} [DecidableEq κ] (m : List (κ × β)) (k : κ) : (adel m k).length ≤ m.length := List.length_filter_le _ _
theorem joinStep_keep (a b : Str) (ws : WS) (d : Due) : (∀ k ∈ akeys ws.falls, k ≠ d → k ∈ akeys (WS.joinStep a b ws d).falls) ∧ (WS.joinStep a b ws d).falls.length ≤ ws.falls.length + 1 := by
  have h1 : ∀ k ∈ akeys ws.falls, k ≠ d → k ∈ akeys (adel ws.falls d) := fun k hk ne => mem_akeys_adel.mpr ⟨hk, ne⟩
  have h2 := adel_len ws.falls d
  unfold WS.joinStep
  split
  · split
    · exact ⟨h1, by show (adel ws.falls d).length ≤ _; omega⟩
    · obtain ⟨l1, l2⟩ := lay_keep ({ ws with falls := adel ws.falls d } : WS) (WS.sub a b d.1, WS.sub a b d.2.1, d.2.2) (ws.fallsOf d)
      have l2' : _ ≤ (adel ws.falls d).length + 1 := l2
      exact ⟨fun k hk ne => l1 k (h1 k hk ne), by omega⟩
  · exact ⟨fun k hk _ => hk, Nat.le_succ _⟩
theorem join_keep (a b : Str) : ∀ (L : List Due) (ws : WS), (∀ k ∈ akeys ws.falls, k ∉ L → k ∈ akeys (L.foldl (WS.joinStep a b) ws).falls) ∧ (L.foldl (WS.joinStep a b) ws).falls.length ≤ ws.falls.length + L.length
  | [], ws => ⟨fun _ h _ => h, Nat.le_refl _⟩
  | d :: L, ws => by
    rw [List.foldl_cons]
    obtain ⟨i1, i2⟩ := join_keep a b L (WS.joinStep a b ws d)
    obtain ⟨s1, s2⟩ := joinStep_keep a b ws d
    exact ⟨fun k hk hn => i1 k (s1 k hk fun e => hn (e ▸ List.mem_cons_self)) fun h => hn (List.mem_cons_of_mem _ h), by rw [List.length_cons]; omega⟩
theorem nodup_take {κ : Type} {L : List κ} (h : L.Nodup) {i : Nat} {d : κ} (e : L[i]? = some d) : d ∉ L.take i := fun hm => by
  obtain ⟨j, hj, e2⟩ := List.mem_take_iff_getElem.mp hm
  obtain ⟨hi, e3⟩ := List.getElem?_eq_some_iff.mp e
  have hji : j < i := by omega
  have := (List.pairwise_iff_getElem.mp h) j i (by omega) hi hji
  exact this (e2.trans e3.symm)
theorem cut1 (d : Due) : cutK (dItems d) (some 1) none = [.text d.2.1, d.2.2.key] := rfl
theorem cut2 (d : Due) : cutK (dItems d) none (some 2) = [.text d.1, .text d.2.1] := rfl
section
variable {K : PySem.W.Frag} {σ : L2.St} {H : Hp} {te : TE} {d : Due}
theorem s_unl {n : Nat} {t : TGs} {D : Ends} {ks : List NestedKey} (h : EvLK te σ H ks) (hn : ks.length = n) (q : ∀ xs H1, Same H H1 → KAll H1 xs ks → t xs σ H1 D.nx) : tAsg te (gUnl K n t) D σ H := h H (.rf _) _ fun p xs H1 _ e h1 h2 => ⟨p, xs, rfl, .of h1, by rw [h2.length]; exact hn, q xs H1 e h2⟩
theorem ek_cut1 (h : EvK te σ H (dueKey d)) : EvK (tSl (rSlA K) te (tPart (tC (.int 1))) tNoPart) σ H (.tup [.text d.2.1, d.2.2.key]) := cut1 d ▸ ek_sl (ks := dItems d) h eo_int eo_non
theorem ek_cut2 (h : EvK te σ H (dueKey d)) : EvK (tSl (rSlA K) te tNoPart (tPart (tC (.int 2)))) σ H (.tup [.text d.1, .text d.2.1]) := cut2 d ▸ ek_sl (ks := dItems d) h eo_non eo_int
end
section
variable {P : Program} {w : World} {K : PySem.W.Frag} {mg : Str → Option Value} {base : Heap} (T : Tp K mg)
include T
def spPart (P : Program) (w : World) (C : Addr) : Sp := fun vs H Q _ => ∃ a fx n ws nm fr, vs = [.ref a.x, .str nm, .str fr] ∧ W P w H C a fx n ws ∧ ws.falls.length ≤ 2000 ∧ ∀ H', Stp H H' a a → W P w H' C a fx n (ws.part nm fr) → Q .non H'
theorem ok_part : Ok P w K mg base 1 ("Walk", some "part") ["self", "name", "fresh"] (spPart P w (cW K)) := by
  refine ok_of T.f_Walk_part c_Walk_part (fun _ _ _ _ _ _ us hl => match us, hl with | [_, _, _], _ => rfl) (fun vs H Q E ⟨a, fx, n, ws, d, f, e, _⟩ => by rw [e]; rfl) (fun cdv A outer s0 H vs Q E hr h => ?_)
  obtain ⟨a, fx, n, ws, nm, fr, rfl, x, hl, q⟩ := h
  have hu := hr.units
  refine ⟨_, pss_one (ps_for .never rfl (pi_list (pe_callTy (call_listN rfl) (by rfl) T.b_list PyProof.Rows.boot_list (pa_cons (pe_fld (pv 0) rfl) pa_nil))) (pg_name (i := 3) c_Walk_part.nd rfl (.inl rfl))
    (pss_one (ps_if (pt_cmpR op_eq (pe_ix ix_tup (pv 3) pe_int (fun _ _ => rfl)) (pv 1) (nomark _))
      (pss_cons (ps_nput hu (pe_fld (pv 0) rfl) (pe_op op_catA (pe_tup (pa_cons (pv 2) pa_nil)) (pe_slice sl_tupA (pv 3) (po_some pe_int) po_none)) (pe_nget hu (pe_fld (pv 0) rfl) (pv 3) (fun _ _ => rfl)) rfl)
      (pss_one (ps_fld (pv 0) (pe_op op_add (pe_fld (pv 0) rfl) pe_int) rfl))) pss_nil))), ?_⟩
  refine s_loop (Sh := fun σ => σ.length = 4 ∧ σ[0]? = some (some (.ref a.x)) ∧ σ[1]? = some (some (.str nm)) ∧ σ[2]? = some (some (.str fr))) (Pre := fun ws' d => d ∈ akeys ws'.falls ∧ ws'.falls.length ≤ 4000) (stepf := WS.partStep nm fr) x (x.e7 T (Evl.ev_var rfl)) ⟨rfl, rfl, rfl, rfl⟩ (by omega) ?_ ?_ fun σ2 H2 _ st x' => q H2 st x'
  · intro i d hd
    obtain ⟨i1, i2⟩ := part_keep nm fr ((akeys ws.falls).take i) ws
    refine ⟨i1 d (List.mem_of_getElem? hd), ?_⟩
    have : ((akeys ws.falls).take i).length ≤ ws.falls.length := by rw [List.length_take, keys_len]; omega
    omega
  · rintro ws' d v σ' H1 D' ⟨sh0, sh1, sh2, sh3⟩ x1 st1 ⟨pd, pl⟩ hv q1
    obtain ⟨σ0, σ1, σ2, σ3, rfl⟩ : ∃ a b c d, σ' = [a, b, c, d] := by
      match σ', sh0 with
      | [a, b, c, d], _ => exact ⟨a, b, c, d, rfl⟩
    cases sh1
    cases sh2
    cases sh3
    refine Evl.s_if (et_T (eb_eqT (EvK.text (ek_ix (ek_var rfl hv) Evl.ev_c (d0 d))) (Evl.ev_var rfl))) (fun hb H2 s2 => ?_) (fun hb H2 s2 => ?_)
    · have hb := of_decide_eq_true hb
      have x2 := x1.same s2
      have hv2 := hv.mono s2
      refine s_fput (d := (fr, d.2)) (l := ws'.fallsOf d) x2 (ek_fget x2 (x2.e7 T (Evl.ev_var rfl)) (ek_var rfl hv2) pd) (x2.e7 T (Evl.ev_var rfl)) (ek_catA (ks := [.text fr]) (ls := [.text d.2.1, d.2.2.key]) (ek_tup (eks_cons (ek_text (Evl.ev_var rfl)) eks_nil)) (ek_cut1 (ek_var rfl hv2)) (Nat.le_of_ble_eq_true rfl)) pl fun H3 st3 x3 => ?_
      refine s_cnt x3 (Evl.ev_op (x3.eb T (Evl.ev_var rfl)) Evl.ev_c Evl.rv_I0) (Evl.ev_var rfl) T.cl_Walk T.n_Walk_copied (a.pb _ _ _ _ _) fun H4 st4 x4 => ?_
      have e : WS.partStep nm fr ws' d = { ws' with falls := aput ws'.falls (fr, d.2) (ws'.fallsOf d), copied := ws'.copied + 1 } := by unfold WS.partStep; rw [if_pos hb]
      exact q1 _ H4 ⟨rfl, rfl, rfl, rfl⟩ (((Stp.same s2 a).trans st3).trans st4) (by rw [e]; exact x4)
    · have e : WS.partStep nm fr ws' d = ws' := by
        unfold WS.partStep
        rw [if_neg (of_decide_eq_false hb)]
      refine s_nil ?_
      exact q1 _ H2 ⟨rfl, rfl, rfl, rfl⟩ (.same s2 a) (by rw [e]; exact x1.same s2)
def subK (nm gone : Str) : NestedKey → NestedKey
  | .text s => .text (WS.sub nm gone s)
  | k => k
def spJoin (P : Program) (w : World) (C : Addr) : Sp := fun vs H Q _ => ∃ a fx n ws nm gone, vs = [.ref a.x, .str nm, .str gone] ∧ W P w H C a fx n ws ∧ ws.falls.length ≤ 2000 ∧ (akeys ws.falls).Nodup ∧ ∀ H', Stp H H' a a → W P w H' C a fx n (ws.join nm gone) → Q .non H'
theorem ok_join : Ok P w K mg base 3 ("Walk", some "join") ["self", "name", "gone"] (spJoin P w (cW K)) := by
  have G := ok_lay (P := P) (w := w) (base := base) T
  refine ok_of T.f_Walk_join c_Walk_join (fun _ _ _ _ _ _ us hl => match us, hl with | [_, _, _], _ => rfl) (fun vs H Q E ⟨a, fx, n, ws, d, f, e, _⟩ => by rw [e]; rfl) (fun cdv A outer s0 H vs Q E hr h => ?_)
  obtain ⟨a, fx, n, ws, nm, gone, rfl, x, hl, hn, q⟩ := h
  have hu := hr.units
  have hr2 : Room 2 _ := hr
  refine ⟨_, pss_one (ps_for .never rfl (pi_list (pe_callTy (call_listN rfl) (by rfl) T.b_list PyProof.Rows.boot_list (pa_cons (pe_fld (pv 0) rfl) pa_nil))) (pg_name (i := 3) c_Walk_join.nd rfl (.inl rfl))
    (pss_one (ps_if (pt_cmpR (op_inN hu) (pv 2) (pe_slice sl_tupA (pv 3) po_none (po_some pe_int)) (by with_unfolding_all rfl))
      (pss_cons (ps_set (i := 4) c_Walk_join.nd rfl (.inl rfl) (pe_npop hu (pe_fld (pv 0) rfl) (pv 3) ⟨rfl, rfl, rfl, rfl⟩))
      (pss_cons (ps_asg (pe_lc (own := [("one", 7)]) (g := gName 7) (te := tIf (tTest (tOp rEq (tVar 7) (tVar 2))) (tVar 1) (tVar 7)) rfl c_Walk_join.nd (pi_tup (pe_slice sl_tupA (pv 3) po_none (po_some pe_int))) (blkOk_by (N := ["self", "name", "gone", "due", "falls", "ower", "owed", "one"]) (sc := defScope s_Walk_join) (by decide +kernel)) (fun _ _ _ _ _ => pg_name (i := 7) c_Walk_join.nd rfl (.inl rfl))
          (fun _ _ _ _ _ => pts_nil) (fun _ _ _ _ _ => pe_ifExp (pt_cmpR op_eq (pv 7) (pv 2) (nomark _)) (pv 1) (pv 7)))
          (pg_unl rfl (pgs_cons (pg_name (i := 5) c_Walk_join.nd rfl (.inl rfl)) (pgs_cons (pg_name (i := 6) c_Walk_join.nd rfl (.inl rfl)) pgs_nil))))
      (pss_one (ps_if (pt_cmpR op_eq (pv 5) (pv 6) (nomark _)) (pss_one (ps_fld (pv 0) (pe_op op_add (pe_fld (pv 0) rfl) pe_int) rfl))
        (pss_one (ps_expr (pe_mt G hr2 (pv 0) T.cl_Walk T.m_Walk_lay (pa_cons (pe_tup (pa_cons (pv 5) (pa_cons (pv 6) (pa_cons (pe_ix ix_tup (pv 3) pe_int (fun _ _ => rfl)) pa_nil)))) (pa_cons (pv 4) pa_nil)))))))))
      pss_nil))), ?_⟩
  refine s_loop (Sh := fun σ => σ.length = 8 ∧ σ[0]? = some (some (.ref a.x)) ∧ σ[1]? = some (some (.str nm)) ∧ σ[2]? = some (some (.str gone))) (Pre := fun ws' d => d ∈ akeys ws'.falls ∧ ws'.falls.length ≤ 4000) (stepf := WS.joinStep nm gone) x (x.e7 T (Evl.ev_var rfl)) ⟨rfl, rfl, rfl, rfl⟩ (by omega) ?_ ?_ fun σ2 H2 _ st x' => q H2 st x'
  · intro i d hd
    obtain ⟨i1, i2⟩ := join_keep nm gone ((akeys ws.falls).take i) ws
    refine ⟨i1 d (List.mem_of_getElem? hd) (nodup_take hn hd), ?_⟩
    have : ((akeys ws.falls).take i).length ≤ ws.falls.length := by rw [List.length_take, keys_len]; omega
    omega
  · rintro ws' d v σ' H1 D' ⟨sh0, sh1, sh2, sh3⟩ x1 st1 ⟨pd, pl⟩ hv q1
    obtain ⟨σ0, σ1, σ2, σ3, σ4, σ5, σ6, σ7, rfl⟩ : ∃ a b c d e f g h, σ' = [a, b, c, d, e, f, g, h] := by
      match σ', sh0 with
      | [a, b, c, d, e, f, g, h], _ => exact ⟨a, b, c, d, e, f, g, h, rfl⟩
    cases sh1
    cases sh2
    cases sh3
    have inn : decide (NestedKey.text gone ∈ [NestedKey.text d.1, .text d.2.1]) = decide (gone = d.1 ∨ gone = d.2.1) := decide_eq_decide.mpr (by simp)
    refine Evl.s_if (b := decide (gone = d.1 ∨ gone = d.2.1)) (et_T (Evl.ev_is (eb_inK (neg := false) (ek_text (Evl.ev_var rfl)) (ek_cut2 (ek_var rfl hv)) (Nat.le_of_ble_eq_true rfl)) (by rw [if_neg Bool.false_ne_true]; exact congrArg V.bl inn))) (fun hb H2 s2 => ?_) (fun hb H2 s2 => ?_)
    · have hb := of_decide_eq_true hb
      have x2 := x1.same s2
      have hv2 := hv.mono s2
      refine e_fpop x2 (x2.e7 T (Evl.ev_var rfl)) (ek_var rfl hv2) pd fun vf H3 st3 x3 hvf => ?_
      have hv3 := KAt.keep st3.tup _ _ hv2
      have el : EvLK (tLc (iTup K (tSl (rSlA K) (tVar 3) tNoPart (tPart (tC (.int 2))))) (gName 7) tYes (tIf (tTest (tOp rEq (tVar 7) (tVar 2))) (tVar 1) (tVar 7)) [7]) [some (.ref a.x), some (.str nm), some (.str gone), some v, some vf, σ5, σ6, σ7] H3 ((([NestedKey.text d.1, .text d.2.1]).filter fun _ => true).map (subK nm gone)) := by
        refine el_lc (src_tup (ek_cut2 (ek_var rfl hv3))) (Nat.le_of_ble_eq_true rfl) fun k hk H4 x s4 hx => ?_
        obtain ⟨s, rfl⟩ : ∃ s, k = .text s := by
          simp only [List.mem_cons, List.not_mem_nil, or_false] at hk
          rcases hk with h | h <;> exact ⟨_, h⟩
        cases hx
        refine turn_name (k := .text s) (.text s) rfl et_yes fun _ => ?_
        refine ek_if (et_T (eb_eqT (Evl.ev_var rfl) (Evl.ev_var rfl))) (fun hb => ?_) (fun hb => ?_)
        · have : subK nm gone (.text s) = .text nm := congrArg NestedKey.text (show (if s = gone then nm else s) = nm from if_pos (of_decide_eq_true hb))
          rw [this]
          exact ek_text (Evl.ev_var rfl)
        · have : subK nm gone (.text s) = .text s := congrArg NestedKey.text (show (if s = gone then nm else s) = s from if_neg (of_decide_eq_false hb))
          rw [this]
          exact ek_text (Evl.ev_var rfl)
      refine s_unl el rfl fun xs H4 s4 hk4 => ?_
      rw [filt_true] at hk4
      cases hk4 with
      | cons g1 hk4 =>
      cases hk4 with
      | cons g2 hk4 =>
      cases hk4; cases g1; cases g2
      have x4 := x3.same s4
      have st4 := ((Stp.same s2 a).trans st3).trans (.same s4 a)
      refine ⟨_, _, rfl, _, _, rfl, rfl, ?_⟩
      refine Evl.s_if (et_T (eb_eqT (Evl.ev_var rfl) (Evl.ev_var rfl))) (fun hb2 H5 s5 => ?_) (fun hb2 H5 s5 => ?_)
      · have x5 := x4.same s5
        refine s_cnt x5 (Evl.ev_op (x5.ec T (Evl.ev_var rfl)) Evl.ev_c Evl.rv_I0) (Evl.ev_var rfl) T.cl_Walk T.n_Walk_struck (a.pc _ _ _ _ _) fun H6 st6 x6 => ?_
        have e : WS.joinStep nm gone ws' d = { ws' with falls := adel ws'.falls d, struck := ws'.struck + 1 } := by unfold WS.joinStep; rw [if_pos hb, if_pos (of_decide_eq_true hb2)]
        exact q1 _ H6 ⟨rfl, rfl, rfl, rfl⟩ ((st4.trans (.same s5 a)).trans st6) (by rw [e]; exact x6)
      · have x5 := x4.same s5
        have hv5 := (hv3.mono s4).mono s5
        have hvf5 := (hvf.mono s4).mono s5
        have e : WS.joinStep nm gone ws' d = ({ ws' with falls := adel ws'.falls d } : WS).lay (WS.sub nm gone d.1, WS.sub nm gone d.2.1, d.2.2) (ws'.fallsOf d) := by unfold WS.joinStep; rw [if_pos hb, if_neg (of_decide_eq_false hb2)]
        refine me_K (Evl.ev_var rfl) x5.ins (a.m6 _ _ _ _) (eks_cons (ek_tup (eks_cons (ek_text (Evl.ev_var rfl)) (eks_cons (ek_text (Evl.ev_var rfl)) (eks_cons (ek_ix (ek_var rfl hv5) Evl.ev_c (d2 d)) eks_nil)))) (eks_cons (ek_var rfl hvf5) eks_nil)) fun vs H6 s6 hvs => ?_
        cases hvs with
        | cons g1 hvs =>
        cases hvs with
        | cons g2 hvs =>
        cases hvs
        exact ⟨a, fx, n, _, _, (WS.sub nm gone d.1, WS.sub nm gone d.2.1, d.2.2), _, ws'.fallsOf d, rfl, x5.same s6, g1, g2, Nat.le_trans (adel_len _ _) pl, fun H7 st7 x7 => q1 _ H7 ⟨rfl, rfl, rfl, rfl⟩ (((st4.trans (.same s5 a)).trans (.same s6 a)).trans st7) (by rw [e]; exact x7)⟩
    · have e : WS.joinStep nm gone ws' d = ws' := by
        unfold WS.joinStep
        rw [if_neg (of_decide_eq_false hb)]
      refine s_nil ?_
      exact q1 _ H2 ⟨rfl, rfl, rfl, rfl⟩ (.same s2 a) (by rw [e]; exact x1.same s2)
end
end CB
/-! CBM5 -/
set_option Elab.async false
set_option autoImplicit false
set_option linter.all false
set_option maxRecDepth 100000
set_option maxHeartbeats 2000000
/-! Walk.go. -/
namespace CB
open PySem PySem.Spec PyProof.Rows L2
open Evl (Ev EvT EvA EvO)
def WAd.moreA (a : WAd) (p : Addr) : WAd := { a with al := a.al ++ [p] }
def WAd.moreM (a : WAd) (p : Addr) : WAd := { a with ml := a.ml ++ [p] }
theorem WAd.fpA (a : WAd) (p : Addr) : (a.moreA p).fp = a.fp ++ [p] := by simp [WAd.fp, WAd.fx, WAd.moreA]
theorem WAd.fpM (a : WAd) (p : Addr) : ∀ b, b ∈ (a.moreM p).fp ↔ b ∈ a.fp ∨ b = p := by
  intro b
  simp only [WAd.fp, WAd.fx, WAd.moreM, List.mem_append, List.mem_cons, List.not_mem_nil, or_false]
  constructor
  · rintro (h | (h | h) | h)
    · exact .inl (.inl h)
    · exact .inl (.inr (.inl h))
    · exact .inr h
    · exact .inl (.inr (.inr h))
  · rintro ((h | h | h) | h)
    · exact .inl h
    · exact .inr (.inl (.inl h))
    · exact .inr (.inr h)
    · exact .inr (.inl (.inr h))
section
variable {P : Program} {w : World} {H H' : Hp} {C : Addr} {a : WAd} {fx : WFix} {n : Nat} {ws : WS}
theorem W.wAnsNew (x : W P w H C a fx n ws) (k : Kp H H' a.answers) {as : List (Pg × List Due)} {p : Addr} {ys : List V} (hp : H p = some (.lst ys)) (hn : p ∉ a.fp) (nf : CB.wAns H' (a.moreA p) as) (hl : as.length ≤ n) : W P w H' C (a.moreA p) fx n { ws with answers := as } := by
  obtain ⟨m1, m2, m3, m4, m5, m6, m7, m8, m9, m10⟩ := a.mem
  have t := x.tupLe m8 k
  obtain ⟨n1, n2, n3, n4, n5, n6, n7⟩ := WAd.fxne x.nd
  simp only [List.mem_cons, List.not_mem_nil, or_false, not_or] at n1 n2 n3 n4 n5 n6 n7
  have nl := (WAd.nes x.nd).2.1 a.answers (by simp [WAd.fx])
  have pa : p ≠ a.answers := fun z => hn (z ▸ m8)
  refine ⟨k _ _ n1.2.2.2.2.2.2 x.ins, KAt.keep t _ _ x.book, KAt.keep t _ _ x.tm, x.lost.keep t fun u => k _ u n2.2.2.2.2.2, x.homes.keep t fun u => k _ u n3.2.2.2.2, x.mourned.keep t (fun u => k _ u n4.2.2.2) fun b hb u => k b u fun z => nl.1 (z ▸ hb),
    x.sorts.keep t fun u => k _ u n5.2.2, x.falls.keep t fun u => k _ u n6.2, x.marks.keep t fun u => k _ u n7, nf, fun b hb => ?_, ?_, ⟨x.bnd.1, x.bnd.2.1, hl⟩, x.le⟩
  · have hb' : b ∈ a.ml ++ (a.al ++ [p]) := hb
    rw [← List.append_assoc] at hb'
    rcases List.mem_append.mp hb' with hb' | hb'
    · obtain ⟨xs, e⟩ := x.mls b hb'
      exact ⟨xs, k b _ (fun z => (List.mem_append.mp hb').elim (fun q => nl.1 (z ▸ q)) fun q => nl.2 (z ▸ q)) e⟩
    · rw [List.mem_singleton] at hb'
      subst hb'
      exact ⟨ys, k _ _ pa hp⟩
  · rw [WAd.fpA, List.nodup_append]
    exact ⟨x.nd, by simp, fun b hb c hc => by rw [List.mem_singleton] at hc; subst hc; intro e; subst e; exact hn hb⟩
theorem Stp.moreA {H H' : Hp} {p : Addr} (s : Stp H H' a a) (hp : H p = none) : Stp H H' a (a.moreA p) := ⟨s.keep, fun b hb => by
  rw [WAd.fpA] at hb
  rcases List.mem_append.mp hb with hb | hb
  · exact .inl hb
  · rw [List.mem_singleton] at hb
    subst hb
    exact .inr hp, ⟨rfl, rfl, rfl, rfl, rfl, rfl, rfl, rfl, rfl, rfl, rfl⟩, s.tup⟩
end
section
variable {K : PySem.W.Frag} {σ : L2.St} {H : Hp} {ta : TE} {p : Addr} {xs : List V}
theorem eb_nil (h : Ev ta σ H (.ref p)) (hs : SqL K H p xs) : Ev (tOp (rEqNil K false) ta (tLst tNil)) σ H (.bl xs.isEmpty) := fun H1 e Q q =>
  h H1 e _ fun H2 e2 => ⟨by decide, fun l hl => ⟨p, l, xs, rfl, rfl, sqL_same ((Same.tr e e2).tr (.up hl)) hs, .of upd_same, by rw [if_neg Bool.false_ne_true]; exact q _ (e2.tr (.up hl))⟩⟩
end
section
variable {K : PySem.W.Frag} {σ : L2.St} {H : Hp} {to : TE} {t : TA} {d : Addr} {xs vs : List V} {D : Ends}
/-- l.append((..)) -/
theorem s_appT (h : Ev to σ H (.ref d)) (he : EvA t σ H vs) (hz : Nat.ble vs.length 100000 = true) (hd : H d = some (.lst xs)) (hl : xs.length ≤ 2000) (q : ∀ tp H1, Same H H1 → H1 tp = none → D.nx σ (upd (upd H1 tp (.tup vs)) d (.lst (xs ++ [.ref tp])))) : tDrop (tBM K "list" rAppend to (tCons (tTup t) tNil)) D σ H :=
  h H (Evl.Ex.refl _) _ fun H1 s1 => ⟨.inl ⟨rfl, xs, .of (s1 _ _ hd)⟩, he H1 s1 _ fun H2 s2 => ⟨Evl.sz_of (Nat.le_of_ble_eq_true hz), fun tp htp => ⟨d, xs, _, rfl, rfl, ((s1.tr s2).tr (.up htp)) _ _ hd, small hl, q tp H2 (s1.tr s2) htp⟩⟩⟩
end
/-- a property of a due as one of its datum -/
noncomputable def ofDue (f : Due → Bool) (k : NestedKey) : Bool := open Classical in if h : ∃ d : Due, k = dueKey d then f h.choose else false
theorem ofDue_key (f : Due → Bool) (d : Due) : ofDue f (dueKey d) = f d := by
  unfold ofDue
  have h : ∃ e : Due, dueKey d = dueKey e := ⟨d, rfl⟩
  rw [dif_pos h]
  exact congrArg f (dueKey_inj h.choose_spec).symm
theorem dueKs_filter (f : Due → Bool) (ds : List Due) : (dueKs ds).filter (ofDue f) = dueKs (ds.filter f) := by
  unfold dueKs
  rw [List.filter_map]
  congr 1
  refine List.filter_congr fun d _ => ?_
  exact ofDue_key f d
theorem mem_dueKs {ds : List Due} {k : NestedKey} (h : k ∈ dueKs ds) : ∃ d ∈ ds, k = dueKey d := by
  obtain ⟨d, hd, e⟩ := List.mem_map.mp h
  exact ⟨d, hd, e.symm⟩
theorem adel_keep (L : List Due) : ∀ (m : List (Due × List Int)) (k : Due), k ∈ akeys m → k ∉ L → k ∈ akeys (L.foldl adel m) := by
  induction L with
  | nil => exact fun m k h _ => h
  | cons d L ih =>
    intro m k h hn
    rw [List.foldl_cons]
    exact ih _ k (mem_akeys_adel.mpr ⟨h, fun e => hn (e ▸ List.mem_cons_self)⟩) fun h => hn (List.mem_cons_of_mem _ h)
section
variable {P : Program} {w : World} {K : PySem.W.Frag} {mg : Str → Option Value} {base : Heap} (T : Tp K mg)
include T
def spGo (P : Program) (w : World) (C : Addr) : Sp := fun vs H Q _ => ∃ a fx n ws v p, vs = [.ref a.x, v] ∧ W P w H C a fx n ws ∧ KAt H v (Pg.key p) ∧ p.isGo = true ∧ Pg.snd p ∈ akeys ws.homes ∧ (∀ x ∈ akeys ws.falls, x.2.2 ∈ akeys ws.sorts) ∧ (akeys ws.falls).Nodup ∧ ws.falls.length ≤ 4000 ∧ ws.sorts.length + 1 ≤ n ∧ ws.answers.length + 1 ≤ n ∧
  ∀ u H' a', Stp H H' a a' → W P w H' C a' fx n (ws.go p p.fst p.snd).1 → KAt H' u (mkK (ws.go p p.fst p.snd).2) → Q u H'
theorem ok_go : Ok P w K mg base 3 ("Walk", some "go") ["self", "page"] (spGo P w (cW K)) := by
  have G := ok_is_met (P := P) (w := w) (base := base) T
  refine ok_of T.f_Walk_go c_Walk_go (fun _ _ _ _ _ _ us hl => match us, hl with | [_, _], _ => rfl) (fun vs H Q E ⟨a, fx, n, ws, v, p, e, _⟩ => by rw [e]; rfl) (fun cdv A outer s0 H vs Q E hr h => ?_)
  obtain ⟨a, fx, n, ws, v, p, rfl, x, hv, hg, hh, hs, hn, hl, hb1, hb2, q⟩ := h
  have hu := hr.units
  have hr2 : Room 2 _ := hr
  refine ⟨_, pss_cons (ps_asg (pv 1) (pg_tup rfl (pgs_cons (pg_name (i := 2) c_Walk_go.nd rfl (.inl rfl)) (pgs_cons (pg_name (i := 3) c_Walk_go.nd rfl (.inl rfl)) (pgs_cons (pg_name (i := 4) c_Walk_go.nd rfl (.inr rfl)) (pgs_cons (pg_name (i := 5) c_Walk_go.nd rfl (.inr rfl)) pgs_nil))))))
    (pss_cons (ps_set (i := 6) c_Walk_go.nd rfl (.inr rfl) (pe_ifExp (pt_val (pe_mt G hr2 (pv 0) T.cl_Walk T.m_Walk_is_met (pa_cons (pv 1) pa_nil))) pe_str pe_str))
    (pss_cons (ps_setLc (i := 8) (own := [("due", 7)]) (g := gName 7) (te := tVar 7)
        (tt := tAnd (tTest (tOp rEqN (tSl (rSlA K) (tVar 7) tNoPart (tPart (tC (.int 2)))) (tTup (tCons (tVar 4) (tCons (tVar 5) tNil))))) (tTest (tOp (rInN K false) (tVar 6) (tTup (tCons (tC (.str "visit")) (tCons (tNGet P w (tFld K (tVar 0) "sorts") (tOp (rIxT K) (tVar 7) (tC (.int 2)))) tNil))))))
        rfl c_Walk_go.nd rfl rfl (sw_true rfl rfl rfl rfl) (pi_dn (pe_fld (pv 0) rfl)) (blkOk_by (N := ["self", "page", "kind", "day", "one", "other", "sort", "due", "paid"]) (sc := defScope s_Walk_go) (by decide +kernel)) (fun _ _ _ _ _ => pg_name (i := 7) c_Walk_go.nd rfl (.inl rfl))
        (fun _ _ _ _ _ => pts_one (pw_and (pt_cmpR (op_eqN hu) (pe_slice sl_tupA (pv 7) po_none (po_some pe_int)) (pe_tup (pa_cons (pv 4) (pa_cons (pv 5) pa_nil))) (nomark _)) (pw_and1 (pt_cmpR (op_inN hu) (pv 6) (pe_tup (pa_cons pe_str (pa_cons (pe_nget hu (pe_fld (pv 0) rfl) (pe_ix ix_tup (pv 7) pe_int (fun _ _ => rfl)) (fun _ _ => rfl)) pa_nil))) (by with_unfolding_all rfl)))).pt) (fun _ _ _ _ _ => pv 7))
    (pss_cons (ps_if (pt_cmpR (op_eqNil hu) (pv 8) (pe_lst pa_nil) (nomark _))
      (pss_cons (ps_nput hu (pe_fld (pv 0) rfl) (pv 1) (pv 6) rfl)
      (pss_cons (ps_nput hu (pe_fld (pv 0) rfl) (pe_tup (pa_cons (pv 5) (pa_cons (pv 4) (pa_cons (pv 1) pa_nil)))) (pe_tup pa_nil) rfl)
      (pss_cons (ps_fld (pv 0) (pe_op op_add (pe_fld (pv 0) rfl) pe_int) rfl)
      (pss_one (ps_ret (pe_tup (pa_cons pe_str pa_nil)))))))
      pss_nil)
    (pss_cons (ps_for .never rfl (pi_list (pv 8)) (pg_name (i := 7) c_Walk_go.nd rfl (.inl rfl)) (pss_one (ps_expr (pe_npop hu (pe_fld (pv 0) rfl) (pv 7) ⟨rfl, rfl, rfl, rfl⟩))))
    (pss_cons (ps_expr (pe_bm PySem.F.plainAttrs_list PySem.F.slot_list_append PySem.F.type_list_append mt_append (pe_fld (pv 0) rfl) (pa_cons (pe_tup (pa_cons (pv 1) (pa_cons (pv 8) pa_nil))) pa_nil)))
    (pss_one (ps_ret (pe_tup (pa_cons pe_str (pa_cons (pe_callB call_len_seq (by rfl) T.b_len PySem.boot_len (pa_cons (pv 8) pa_nil)) pa_nil)))))))))), ?_⟩
  obtain ⟨t, xs, rfl, h1, h2⟩ := hv.tupRef
  have hv0 := hv
  rw [go_items hg] at h2
  cases h2 with
  | cons g1 h2 =>
  cases h2 with
  | cons g2 h2 =>
  cases h2 with
  | cons g3 h2 =>
  cases h2 with
  | cons g4 h2 =>
  cases h2; cases g1; cases g2; cases g3; cases g4
  refine ⟨_, rfl, t, _, rfl, .of h1, rfl, _, _, rfl, _, _, rfl, _, _, rfl, _, _, rfl, rfl, ?_⟩
  refine s_asgK (k := .text (ws.goSort p)) (ek_if (b := ws.isMet p) (et_B fun H3 s3 Q3 q3 => me_V (Evl.ev_var rfl) (x.same s3).ins (a.m2 _ _ _ _) (Evl.ea_cons (Evl.ev_var rfl) Evl.ea_nil) fun H4 s4 => ⟨a, fx, n, ws, _, p, rfl, x.same (Same.tr s3 s4), hv0.mono (Same.tr s3 s4), hg, hh, fun H5 s5 => q3 H5 (s4.tr s5)⟩) (fun hb => by unfold WS.goSort; rw [if_pos hb]; exact ek_str) (fun hb => by unfold WS.goSort; rw [if_neg (by rw [hb]; exact Bool.false_ne_true)]; exact ek_str)) fun vs H1 s1 hvs => ?_
  cases hvs
  have x1 := x.same s1
  obtain ⟨kvs, dn, r⟩ := x1.falls
  have kl : (kvs.map (·.1)) = dueKs (akeys ws.falls) := falls_keys r
  dsimp only
  refine s_asgLK (ks := dueKs (ws.paidOf (ws.goSort p) p.fst p.snd)) ?_ fun pl xs H2 hpn s2 hp2 hk2 => ?_
  · unfold WS.paidOf
    rw [← dueKs_filter, ← kl, ← List.map_id (List.filter _ _)]
    refine el_lc (v := fun k => k) (src_dn (x1.e7 T (Evl.ev_var rfl)) dn) (by rw [List.length_map, falls_len r]; omega) fun k hk H3 y s3 hy => ?_
    rw [kl] at hk
    obtain ⟨d, hd, rfl⟩ := mem_dueKs hk
    have x3 := x1.same s3
    refine turn_name hy rfl ?_ fun _ => ek_var rfl hy
    rw [ofDue_key]
    unfold WS.paysB
    have e1 : decide ([NestedKey.text d.1, .text d.2.1] = [.text p.fst, .text p.snd]) = (decide (d.1 = p.fst) && decide (d.2.1 = p.snd)) := by
      rw [← Bool.decide_and]; exact decide_eq_decide.mpr (by simp)
    have e2 : decide (NestedKey.text (ws.goSort p) ∈ [NestedKey.text "visit", .text (ws.sortOf d.2.2)]) = (decide (ws.goSort p = sV) || decide (ws.goSort p = ws.sortOf d.2.2)) := by
      rw [← Bool.decide_or]; exact decide_eq_decide.mpr (by simp [sV])
    refine Evl.et_and (et_T (Evl.ev_is (eb_eqN (ek_cut2 (ek_var rfl hy)) (ek_tup (eks_cons (ek_text (Evl.ev_var rfl)) (eks_cons (ek_text (Evl.ev_var rfl)) eks_nil))) (Nat.le_of_ble_eq_true rfl)) (congrArg V.bl e1))) fun _ => et_T (Evl.ev_is (eb_inK (neg := false) (ek_text (Evl.ev_var rfl)) (ek_tup (eks_cons ek_str (eks_cons (ek_text (EvK.text (ek_sget x3 (x3.e6 T (Evl.ev_var rfl)) (ek_ix (ek_var rfl hy) Evl.ev_c (d2 d)) (hs d hd)))) eks_nil))) (Nat.le_of_ble_eq_true rfl)) (by rw [if_neg Bool.false_ne_true]; exact congrArg V.bl e2))
  · have x2 := x1.same s2
    have s12 : Same H H2 := s1.tr s2
    have hv2 := hv0.mono s12
    have pf : pl ∉ a.fp := x1.new hpn
    have hlx : xs.length = (ws.paidOf (ws.goSort p) p.fst p.snd).length := by rw [hk2.length]; unfold dueKs; rw [List.length_map]
    refine Evl.s_if (b := xs.isEmpty) (et_T (eb_nil (Evl.ev_var rfl) (.of hp2))) (fun hb H3 s3 => ?_) (fun hb H3 s3 => ?_)
    · have hnil : ws.paidOf (ws.goSort p) p.fst p.snd = [] := by
        rw [List.isEmpty_iff] at hb
        rw [hb] at hlx
        exact List.length_eq_zero_iff.mp hlx.symm
      have eg : ws.go p p.fst p.snd = (ws.goMade p p.fst p.snd, .due) := by unfold WS.go; rw [if_pos hnil]
      have x3 := x2.same s3
      refine s_sput x3 (Evl.ev_var rfl) (x3.e6 T (Evl.ev_var rfl)) (ek_var rfl (hv2.mono s3)) hb1 fun H4 st4 x4 => ?_
      have hv4 := KAt.keep st4.tup _ _ (hv2.mono s3)
      refine s_fput (d := (p.snd, p.fst, p)) (l := []) x4 (ek_tup eks_nil) (x4.e7 T (Evl.ev_var rfl)) (ek_tup (eks_cons (ek_text (Evl.ev_var rfl)) (eks_cons (ek_text (Evl.ev_var rfl)) (eks_cons (ek_var rfl hv4) eks_nil)))) hl fun H5 st5 x5 => ?_
      refine s_cnt x5 (Evl.ev_op (x5.ea T (Evl.ev_var rfl)) Evl.ev_c Evl.rv_I0) (Evl.ev_var rfl) T.cl_Walk T.n_Walk_made (a.pa _ _ _ _ _) fun H6 st6 x6 => ?_
      refine s_retK (σ := []) (ek_tup (eks_cons ek_str eks_nil)) fun u H7 s7 hu7 => ?_
      exact q u H7 a (((((Stp.same (s12.tr s3) a).trans st4).trans st5).trans st6).trans (.same s7 a)) (by rw [eg]; exact x6.same s7) (by rw [eg]; exact hu7)
    · have hne : ws.paidOf (ws.goSort p) p.fst p.snd ≠ [] := fun z => by
        rw [z] at hlx
        rw [List.length_eq_zero_iff.mp hlx] at hb
        cases hb
      have eg : ws.go p p.fst p.snd = (ws.goPaid p (ws.paidOf (ws.goSort p) p.fst p.snd), .ans (ws.paidOf (ws.goSort p) p.fst p.snd).length) := by unfold WS.go; rw [if_neg hne]
      rw [eg] at q
      have hpn2 : (ws.paidOf (ws.goSort p) p.fst p.snd).Nodup := hn.filter _
      have hps : ∀ d ∈ ws.paidOf (ws.goSort p) p.fst p.snd, d ∈ akeys ws.falls := fun d hd => (List.mem_filter.mp hd).1
      generalize ws.paidOf (ws.goSort p) p.fst p.snd = paid at *
      refine s_nil ?_
      dsimp only
      have x3 := x2.same s3
      have hp3 := s3 _ _ hp2
      have hk3 := hk2.mono s3
      have hv3 := hv2.mono s3
      obtain ⟨H4, eH4⟩ : ∃ H4, H4 = H3 := ⟨_, rfl⟩
      have s4 : Same H3 H4 := by rw [eH4]; exact .rf _
      rw [← eH4]
      refine ⟨.ref pl, rfl, pl, rfl, ⟨xs, .of (s4 _ _ hp3)⟩, for_list (K := K) (a := pl) (xs := xs) (fun i σ' H' => (σ'.length = 9 ∧ σ'[0]? = some (some (.ref a.x)) ∧ σ'[1]? = some (some (.ref t)) ∧ σ'[8]? = some (some (.ref pl))) ∧ H' pl = some (.lst xs) ∧ Stp H4 H' a a ∧ W P w H' (cW K) a fx n { ws with falls := (paid.take i).foldl adel ws.falls })
        ⟨⟨rfl, rfl, rfl, rfl⟩, s4 _ _ hp3, .same (.rf _) a, x3.same s4⟩ (fun i σ' H' _ h => .of h.2.1) ?_ ?_⟩
      · rintro i v σ' H5 hi ⟨⟨sh0, sh1, sh2, sh3⟩, hp5, st5, x5⟩
        obtain ⟨k, hk', hv5⟩ := (hk3.mono s4).getV hi
        unfold dueKs at hk'
        rw [List.getElem?_map] at hk'
        obtain ⟨d, hd, rfl⟩ := Option.map_eq_some_iff.mp hk'
        have ht : paid.take (i + 1) = paid.take i ++ [d] := by rw [List.take_add_one, hd]; simp
        obtain ⟨σ0, σ1, σ2, σ3, σ4, σ5, σ6, σ7, σ8, rfl⟩ : ∃ a b c d e f g h i, σ' = [a, b, c, d, e, f, g, h, i] := by
          match σ', sh0 with
          | [a, b, c, d, e, f, g, h, i], _ => exact ⟨a, b, c, d, e, f, g, h, i, rfl⟩
        cases sh1
        cases sh2
        cases sh3
        refine e_fpop x5 (x5.e7 T (Evl.ev_var rfl)) (ek_var rfl (KAt.keep st5.tup _ _ hv5)) (adel_keep _ _ d (hps d (List.mem_of_getElem? hd)) (nodup_take hpn2 hd)) fun vf H6 st6 x6 _ => ?_
        refine ⟨⟨rfl, rfl, rfl, rfl⟩, st6.keep pl _ hp5 pf, st5.trans st6, ?_⟩
        rw [ht, List.foldl_append]
        exact x6
      · rintro σ' H5 ⟨⟨sh0, sh1, sh2, sh3⟩, hp5, st5, x5⟩
        rw [hlx, List.take_length] at x5
        obtain ⟨σ0, σ1, σ2, σ3, σ4, σ5, σ6, σ7, σ8, rfl⟩ : ∃ a b c d e f g h i, σ' = [a, b, c, d, e, f, g, h, i] := by
          match σ', sh0 with
          | [a, b, c, d, e, f, g, h, i], _ => exact ⟨a, b, c, d, e, f, g, h, i, rfl⟩
        cases sh1
        cases sh2
        cases sh3
        have hv5 := KAt.keep st5.tup _ _ (hv3.mono s4)
        have hk5 := KAll.keep st5.tup _ _ (hk3.mono s4)
        obtain ⟨ax, ha1, ha2⟩ := x5.ans
        have hlen : ax.length ≤ n := by rw [Paired.length ha2]; exact x5.bnd.2.2
        refine s_appT (x5.e9 T (Evl.ev_var rfl)) (Evl.ea_cons (Evl.ev_var rfl) (Evl.ea_cons (Evl.ev_var rfl) Evl.ea_nil)) rfl ha1 (Nat.le_trans hlen x5.le) fun tp H7 s57 htp => ?_
        have s8 : Same H5 (upd H7 tp (.tup [.ref t, .ref pl])) := s57.tr (.up htp)
        have x8 := x5.same s8
        have kp : Kp (upd H7 tp (.tup [.ref t, .ref pl])) (upd (upd H7 tp (.tup [.ref t, .ref pl])) a.answers (.lst (ax ++ [.ref tp]))) a.answers := fun b u hb e => by rw [upd_ne hb]; exact e
        have m8 : a.answers ∈ a.fp := a.mem.2.2.2.2.2.2.2.1
        have tl := x8.tupLe m8 kp
        have nl := (WAd.nes x.nd).2.1 a.answers (by simp [WAd.fx])
        have hp8 := s8 _ _ hp5
        have pa : pl ≠ a.answers := fun z => pf (z ▸ m8)
        have nf : wAns (upd (upd H7 tp (.tup [.ref t, .ref pl])) a.answers (.lst (ax ++ [.ref tp]))) (a.moreA pl) (ws.answers ++ [(p, paid)]) := by
          refine ⟨_, upd_same, Paired.snoc (Paired.mapP ha2 fun y e z => ?_) ?_⟩
          · have z1 := z.keep (TupLe.of_same s8) (fun b _ u hu => s8 _ _ hu)
            have z2 := z1.keep tl (fun b hb u hu => kp b u (fun z => nl.2 (z ▸ hb)) hu)
            obtain ⟨q1, v1, l1, ys, f1, f2, f3, f4, f5⟩ := z2
            exact ⟨q1, v1, l1, ys, f1, f2, f3, List.mem_append_left _ f4, f5⟩
          · exact ⟨tp, .ref t, pl, xs, rfl, tl _ _ upd_same, KAt.keep tl _ _ (hv5.mono s8), List.mem_append_right _ (List.mem_singleton.mpr rfl), kp _ _ pa hp8, KAll.keep tl _ _ (hk5.mono s8)⟩
        have x9 := x8.wAnsNew kp hp8 pf nf (by rw [List.length_append]; exact hb2)
        have stA : Stp H H5 a a := (Stp.same ((s12.tr s3).tr s4) a).trans st5
        refine s_retK (ek_tup (eks_cons ek_str (eks_cons (ek_num (ev_lenAt (Evl.ev_var rfl) (.of (kp _ _ pa hp8)))) eks_nil))) fun u H9 s9 hu9 => ?_
        rw [hlx] at hu9
        have hpH : H pl = none := s1.no hpn
        exact q u H9 (a.moreA pl) ((((stA.trans (.same s8 a)).trans (x8.stp m8 kp)).trans (.same s9 a)).moreA hpH) (x9.same s9) hu9
end
end CB
/-! CBM6 -/
set_option Elab.async false
set_option autoImplicit false
set_option linter.all false
set_option maxRecDepth 100000
set_option maxHeartbeats 2000000
/-! Walk.put. -/
namespace CB
open PySem PySem.Spec PyProof.Rows L2
open Evl (Ev EvT EvA EvO)
section
variable {P : Program} {w : World} {H H' : Hp} {C : Addr} {a : WAd} {fx : WFix} {n : Nat} {ws : WS}
theorem W.wMourn (x : W P w H C a fx n ws) {ml : List Addr} {ms : List (Str × List (Int × Int))} (k : ∀ b u, b ≠ a.mourned → b ∉ a.ml → H b = some u → H' b = some u)
    (nf : CB.wMourned H' { a with ml := ml } n ms) (hl : ∀ b ∈ ml, ∃ xs, H' b = some (.lst xs)) (hn : ({ a with ml := ml } : WAd).fp.Nodup) : W P w H' C { a with ml := ml } fx n { ws with mourned := ms } := by
  obtain ⟨m1, m2, m3, m4, m5, m6, m7, m8, m9, m10⟩ := a.mem
  have t : TupLe H H' := fun b ys e => k b _ (fun z => x.ntup m4 ys (z ▸ e)) (fun z => x.ntup (m9 b z) ys e) e
  obtain ⟨n1, n2, n3, n4, n5, n6, n7⟩ := WAd.fxne x.nd
  simp only [List.mem_cons, List.not_mem_nil, or_false, not_or] at n1 n2 n3 n4 n5 n6 n7
  obtain ⟨_, nn, _, _, nl⟩ := WAd.nes x.nd
  have nm : ∀ b ∈ a.fx, b ∉ a.ml := fun b hb => (nn b hb).1
  have k1 : ∀ b ∈ a.fx, b ≠ a.mourned → ∀ u, H b = some u → H' b = some u := fun b hb ne u e => k b u ne (nm b hb) e
  have f1 : a.x ∈ a.fx := by simp [WAd.fx]
  have f2 : a.lost ∈ a.fx := by simp [WAd.fx]
  have f3 : a.homes ∈ a.fx := by simp [WAd.fx]
  have f5 : a.sorts ∈ a.fx := by simp [WAd.fx]
  have f6 : a.falls ∈ a.fx := by simp [WAd.fx]
  have f7 : a.marks ∈ a.fx := by simp [WAd.fx]
  have f8 : a.answers ∈ a.fx := by simp [WAd.fx]
  have ka : ∀ b ∈ a.al, ∀ u, H b = some u → H' b = some u := fun b hb u e => k b u (fun z => (nn a.mourned (by simp [WAd.fx])).2 (z ▸ hb)) (fun z => nl b z hb) e
  refine ⟨k1 _ f1 n1.2.2.1 _ x.ins, KAt.keep t _ _ x.book, KAt.keep t _ _ x.tm, x.lost.keep t (k1 _ f2 n2.2.1), x.homes.keep t (k1 _ f3 n3.1), nf, x.sorts.keep t (k1 _ f5 (Ne.symm n4.1)), x.falls.keep t (k1 _ f6 (Ne.symm n4.2.1)),
    x.marks.keep t (k1 _ f7 (Ne.symm n4.2.2.1)), x.ans.keep t (k1 _ f8 (Ne.symm n4.2.2.2)) ka, fun b hb => ?_, hn, x.bnd, x.le⟩
  have hb' : b ∈ ml ++ a.al := hb
  rcases List.mem_append.mp hb' with h | h
  · exact hl b h
  · obtain ⟨xs, e⟩ := x.mls b (List.mem_append_right _ h)
    exact ⟨xs, ka b h _ e⟩
theorem homes_put {kvs : List (L2.Key × V)} {hs : List (Str × List Int)} {s : Str} {l : List Int} {v : V} (h1 : kvs.length + 1 ≤ n) (h2 : ∀ s : Str, (aget hs s = none → valV kvs (Sum.inr s) = none) ∧ ∀ l, aget hs s = some l → ∃ v, valV kvs (Sum.inr s) = some v ∧ KAt H v (.tup (nums l)))
    (e : H' a.homes = some (.dK (putK kvs (Sum.inr s) v))) (hv : KAt H' v (.tup (nums l))) (t : TupLe H H') : wHomes H' a n (aput hs s l) := by
  refine ⟨_, e, Nat.le_trans (length_putK _ _ _) h1, fun s' => ?_⟩
  rw [valV_put, aget_aput]
  by_cases c : s' = s
  · rw [if_pos c, if_pos (by rw [c])]
    exact ⟨fun z => (nomatch z), fun l' z => ⟨v, rfl, by cases z; exact hv⟩⟩
  · rw [if_neg c, if_neg (by simp [c])]
    exact ⟨(h2 s').1, fun l' z => let ⟨v', g1, g2⟩ := (h2 s').2 l' z; ⟨v', g1, KAt.keep t _ _ g2⟩⟩
end
section
variable {t : TT} {A B : TS} {D : Ends} {σ : L2.St} {H : Hp}
theorem s_skip (c : EvT t σ H false) (q : ∀ H1, Same H H1 → D.nx σ H1) : tIfS t A tNext D σ H := Evl.s_if (b := false) c (fun h => nomatch h) fun _ H1 s => q H1 s
theorem s_take (c : EvT t σ H true) (q : ∀ H1, Same H H1 → A D σ H1) : tIfS t A B D σ H := Evl.s_if (b := true) c (fun _ H1 s => q H1 s) fun h => nomatch h
end
section
variable {P : Program} {w : World} {K : PySem.W.Frag} {mg : Str → Option Value} {base : Heap} {H : Hp} {a : WAd} {fx : WFix} {n : Nat} {ws : WS} {σ : L2.St} {td ty tv : TE} {t : TA} {D : Ends} {s : Str} {l : List Int}
/-- self.homes[s] = l -/
theorem s_hput (x : W P w H (cW K) a fx n ws) (hn : n + 1 ≤ 2000) (hv : EvK tv σ H (.tup (nums l))) (h : Ev td σ H (.ref a.homes)) (hk : Ev ty σ H (.str s)) (q : ∀ H', Stp H H' a a → W P w H' (cW K) a fx (n + 1) { ws with homes := aput ws.homes s l } → D.nx σ H') : sDPut td ty tv D σ H := by
  obtain ⟨kh, e1, e2, e3⟩ := x.homes
  refine s_dputK hv h hk e1 (by omega) fun v H' W' hv' => ?_
  have m3 : a.homes ∈ a.fp := a.mem.2.2.1
  have tl := x.tupLe m3 W'.kp
  exact q H' (x.stp m3 W'.kp) ((x.more (Nat.le_succ n) hn).wHomes W'.kp (homes_put (by omega) e3 W'.at_ hv' tl))
/-- self.mourned.setdefault(s, []).append((i, j)) -/
theorem s_mput (x : W P w H (cW K) a fx n ws) (hn : n + 1 ≤ 2000) {i j : Int} (h : Ev td σ H (.ref a.mourned)) (hk : Ev ty σ H (.str s)) (ht' : ∀ H1 a1, Stp H H1 a a1 → EvA t σ H1 [.int i, .int j]) (q : ∀ H' a', Stp H H' a a' → W P w H' (cW K) a' fx (n + 1) { ws with mourned := aput ws.mourned s (ws.mournOf s ++ [(i, j)]) } → D.nx σ H') :
    tDrop (tBM K "list" rAppend (tDSetd td ty (tLst tNil)) (tCons (tTup t) tNil)) D σ H := by
  refine h H (Evl.Ex.refl _) _ fun H1 s1 => ⟨a.mourned, rfl, ?_⟩
  have x1 := x.same s1
  obtain ⟨km, e1, e2, e3, e4⟩ := x1.mourned
  refine ⟨.inl ⟨km, .inl e1⟩, hk H1 s1 _ fun H2 s2 => ⟨Nat.le_of_ble_eq_true rfl, fun p hp => ?_⟩⟩
  have x2 := x1.same s2
  have s3 : Same H2 (upd H2 p (.lst [])) := .up hp
  have x3 := x2.same s3
  have s13 : Same H1 (upd H2 p (.lst [])) := Same.tr s2 s3
  have s03 : Same H (upd H2 p (.lst [])) := s1.tr s13
  have pf : p ∉ a.fp := x2.new hp
  obtain ⟨m1, m2, m3, m4, m5, m6, m7, m8, m9, m10⟩ := a.mem
  obtain ⟨_, nn, ndml, _, nl⟩ := WAd.nes x.nd
  have pm : p ≠ a.mourned := fun z => pf (z ▸ m4)
  refine ⟨km, Sum.inr s, s13 _ _ e1, rfl, small (Nat.le_trans e2 x.le), fun v hv => ?_, fun hv => ?_⟩
  · -- a list stands there
    obtain ⟨l0, hl0⟩ : ∃ l, aget ws.mourned s = some l := by
      cases e : aget ws.mourned s with
      | none => rw [(e3 s).1 e] at hv; cases hv
      | some l => exact ⟨l, rfl⟩
    obtain ⟨b, xs, g1, g2, g3, g4, g5⟩ := (e3 s).2 l0 hl0
    rw [g1] at hv
    cases hv
    have g3' := s13 _ _ g3
    refine ⟨.inl ⟨rfl, xs, .of g3'⟩, ht' _ a (.same s03 a) _ (Evl.Ex.refl _) _ fun H4 s4 => ⟨Nat.le_of_ble_eq_true rfl, fun tp htp => ?_⟩⟩
    have s5 : Same (upd H2 p (.lst [])) (upd H4 tp (.tup [.int i, .int j])) := Same.tr s4 (.up htp)
    have x5 := x3.same s5
    have s15 := s13.tr s5
    refine ⟨b, xs, _, rfl, rfl, s5 _ _ g3', small (Nat.le_trans g5 x.le), ?_⟩
    have bm := m9 b g2
    have kp : Kp (upd H4 tp (.tup [.int i, .int j])) (upd (upd H4 tp (.tup [.int i, .int j])) b (.lst (xs ++ [.ref tp]))) b := fun c u hc e => by rw [upd_ne hc]; exact e
    have tl := x5.tupLe bm kp
    have bne : a.mourned ≠ b := fun z => (nn a.mourned (by simp [WAd.fx])).1 (z ▸ g2)
    refine q _ a ((Stp.same (s03.tr s5) a).trans (x5.stp bm kp)) ((x5.more (Nat.le_succ n) hn).wMourn (ml := a.ml) (fun c u _ hc e => kp c u (fun z => hc (z ▸ g2)) e) ⟨km, kp _ _ bne (s15 _ _ e1), by omega, fun s' => ?_, e4⟩ (fun c hc => ?_) x.nd)
    · rw [aget_aput]
      by_cases c : s' = s
      · rw [if_pos c]
        refine ⟨fun z => (nomatch z), fun l' z => ?_⟩
        cases z
        have em : ws.mournOf s = l0 := by unfold WS.mournOf; rw [hl0]; rfl
        rw [em]
        refine ⟨b, _, c ▸ g1, g2, upd_same, ?_, by rw [List.length_append]; simp; omega⟩
        rw [List.map_append]
        exact (KAll.keep tl _ _ (g4.mono s15)).append (.cons (.tup (tl _ _ upd_same) (.cons (.num i) (.cons (.num j) .nil))) .nil)
      · rw [if_neg c]
        refine ⟨(e3 s').1, fun l' z => ?_⟩
        obtain ⟨b', xs', f1, f2, f3, f4, f5⟩ := (e3 s').2 l' z
        have nb : b' ≠ b := fun z => c (e4 s' s b (z ▸ f1) g1)
        exact ⟨b', xs', f1, f2, kp _ _ nb (s15 _ _ f3), KAll.keep tl _ _ (f4.mono s15), by omega⟩
    · by_cases z : c = b
      · subst z; exact ⟨_, upd_same⟩
      · obtain ⟨ys, e⟩ := x5.mls c (List.mem_append_left _ hc)
        exact ⟨ys, kp _ _ z e⟩
  · have hn0 : aget ws.mourned s = none := by
      cases e : aget ws.mourned s with
      | none => rfl
      | some l =>
        obtain ⟨b, xs, g1, _⟩ := (e3 s).2 l e
        rw [g1] at hv; cases hv
    have hp3 : (upd H2 p (.lst [])) p = some (.lst []) := upd_same
    have kp1 : Kp (upd H2 p (.lst [])) (upd (upd H2 p (.lst [])) a.mourned (.dK (putK km (Sum.inr s) (.ref p)))) a.mourned := fun c u hc e => by rw [upd_ne hc]; exact e
    have tl1 := x3.tupLe m4 kp1
    have hpA := kp1 _ _ pm hp3
    have stA : Stp H (upd (upd H2 p (.lst [])) a.mourned (.dK (putK km (Sum.inr s) (.ref p)))) a a := (Stp.same s03 a).trans (x3.stp m4 kp1)
    refine ⟨.inl ⟨rfl, [], .of hpA⟩, ht' _ a stA _ (Evl.Ex.refl _) _ fun H4 s4 => ⟨Nat.le_of_ble_eq_true rfl, fun tp htp => ?_⟩⟩
    have s5 : Same (upd (upd H2 p (.lst [])) a.mourned (.dK (putK km (Sum.inr s) (.ref p)))) (upd H4 tp (.tup [.int i, .int j])) := Same.tr s4 (.up htp)
    refine ⟨p, [], _, rfl, rfl, s5 _ _ hpA, small (Nat.zero_le _), ?_⟩
    have kp2 : Kp (upd H4 tp (.tup [.int i, .int j])) (upd (upd H4 tp (.tup [.int i, .int j])) p (.lst ([] ++ [.ref tp]))) p := fun c u hc e => by rw [upd_ne hc]; exact e
    have keep : ∀ b u, b ≠ a.mourned → b ≠ p → (upd H2 p (.lst [])) b = some u → (upd (upd H4 tp (.tup [.int i, .int j])) p (.lst ([] ++ [.ref tp]))) b = some u := fun b u h1 h2 e => kp2 b u h2 (s5 _ _ (kp1 b u h1 e))
    have tl2 : TupLe (upd H4 tp (.tup [.int i, .int j])) (upd (upd H4 tp (.tup [.int i, .int j])) p (.lst ([] ++ [.ref tp]))) := kp2.tup fun ys e => by rw [s5 _ _ hpA] at e; cases e
    have tl : TupLe (upd H2 p (.lst [])) (upd (upd H4 tp (.tup [.int i, .int j])) p (.lst ([] ++ [.ref tp]))) := (tl1.trans (.of_same s5)).trans tl2
    have nd' : ({ a with ml := a.ml ++ [p] } : WAd).fp.Nodup := by
      have h0 := x.nd
      unfold WAd.fp at h0 ⊢
      have pf' : p ∉ a.fx ++ (a.ml ++ a.al) := pf
      simp only [List.mem_append, not_or] at pf'
      rw [List.nodup_append] at h0 ⊢
      obtain ⟨i1, i2, i3⟩ := h0
      rw [List.nodup_append] at i2
      obtain ⟨j1, j2, j3⟩ := i2
      refine ⟨i1, ?_, fun b hb c hc => ?_⟩
      · rw [List.nodup_append]
        refine ⟨?_, j2, fun b hb c hc => ?_⟩
        · rw [List.nodup_append]
          exact ⟨j1, by simp, fun b hb c hc => by rw [List.mem_singleton] at hc; subst hc; intro e; subst e; exact pf'.2.1 hb⟩
        · rcases List.mem_append.mp hb with hb | hb
          · exact j3 b hb c hc
          · rw [List.mem_singleton] at hb; subst hb; intro e; subst e; exact pf'.2.2 hc
      · have hc' : c ∈ (a.ml ++ [p]) ++ a.al := hc
        rw [List.append_assoc, List.mem_append, List.mem_append, List.mem_singleton] at hc'
        rcases hc' with hc | hc | hc
        · exact i3 b hb c (List.mem_append_left _ hc)
        · subst hc; intro e; subst e; exact pf'.1 hb
        · exact i3 b hb c (List.mem_append_right _ hc)
    have em : ws.mournOf s = [] := by unfold WS.mournOf; rw [hn0]; rfl
    rw [em] at q
    refine q _ { a with ml := a.ml ++ [p] } ⟨fun b o e hb => ?_, fun b hb => ?_, ⟨rfl, rfl, rfl, rfl, rfl, rfl, rfl, rfl, rfl, rfl, rfl⟩, (TupLe.of_same s03).trans tl⟩ ((x2.more (Nat.le_succ n) hn).wMourn (ml := a.ml ++ [p]) (fun c u h1 h2 e => ?_) ⟨_, kp2 _ _ pm.symm (s5 _ _ upd_same), Nat.le_trans (length_putK _ _ _) (Nat.succ_le_succ e2), fun s' => ?_, fun t1 t2 b h1 h2 => ?_⟩ (fun c hc => ?_) nd')
    · exact keep b o (fun z => hb (z ▸ m4)) (fun z => ne_of_none e ((s1.tr s2).no hp) z) (s03 _ _ e)
    · rcases (WAd.fpM a p b).mp hb with h | h
      · exact .inl h
      · exact .inr (h ▸ (s1.tr s2).no hp)
    · exact keep c u h1 (fun z => ne_of_none e hp z) (s3 _ _ e)
    · rw [valV_put, aget_aput]
      by_cases c : s' = s
      · rw [if_pos c, if_pos (by rw [c])]
        refine ⟨fun z => (nomatch z), fun l' z => ?_⟩
        cases z
        refine ⟨p, _, rfl, List.mem_append_right _ (List.mem_singleton.mpr rfl), upd_same, .cons (.tup (tl2 _ _ upd_same) (.cons (.num i) (.cons (.num j) .nil))) .nil, by simp⟩
      · rw [if_neg c, if_neg (by simp [c])]
        refine ⟨(e3 s').1, fun l' z => ?_⟩
        obtain ⟨b', xs', f1, f2, f3, f4, f5⟩ := (e3 s').2 l' z
        have g3 := s13 _ _ f3
        exact ⟨b', xs', f1, List.mem_append_left _ f2, keep _ _ (fun z => (nn a.mourned (by simp [WAd.fx])).1 (z ▸ f2)) (fun z => ne_of_none (s2 _ _ f3) hp z) g3, KAll.keep tl _ _ (f4.mono s13), by omega⟩
    · have ex : ∀ s', valV km (Sum.inr s') = some (V.ref b) → b ≠ p := fun s' h z => by
        cases e : aget ws.mourned s' with
        | none => rw [(e3 s').1 e] at h; cases h
        | some l =>
          obtain ⟨b', xs', f1, f2, f3, f4, f5⟩ := (e3 s').2 l e
          rw [f1] at h
          cases h
          exact ne_of_none (s2 _ _ f3) hp z
      rw [valV_put] at h1 h2
      by_cases c1 : t1 = s
      · by_cases c2 : t2 = s
        · rw [c1, c2]
        · rw [if_pos (by rw [c1])] at h1
          rw [if_neg (by simp [c2])] at h2
          cases h1
          exact absurd rfl (ex t2 h2)
      · rw [if_neg (by simp [c1])] at h1
        by_cases c2 : t2 = s
        · rw [if_pos (by rw [c2])] at h2
          cases h2
          exact absurd rfl (ex t1 h1)
        · rw [if_neg (by simp [c2])] at h2
          exact e4 t1 t2 b h1 h2
    · rcases List.mem_append.mp hc with hc | hc
      · obtain ⟨ys, e⟩ := x2.mls c (List.mem_append_left _ hc)
        exact ⟨ys, keep _ _ (fun z => (nn a.mourned (by simp [WAd.fx])).1 (z ▸ hc)) (fun z => ne_of_none e hp z) (s3 _ _ e)⟩
      · rw [List.mem_singleton] at hc
        subst hc
        exact ⟨_, upd_same⟩
end
section
variable {P : Program} {w : World} {K : PySem.W.Frag} {mg : Str → Option Value} {base : Heap} (T : Tp K mg)
include T
omit T in
theorem go_eq (p : Pg) : decide (NestedKey.text p.kind ∈ [NestedKey.text "card", .text "visit"]) = p.isGo := by
  have k1 : NestedKey.text "card" ∈ [NestedKey.text "card", .text "visit"] := by decide +kernel
  have k2 : NestedKey.text "visit" ∈ [NestedKey.text "card", .text "visit"] := by decide +kernel
  have k3 : ¬ NestedKey.text "house" ∈ [NestedKey.text "card", .text "visit"] := by decide +kernel
  have k4 : ¬ NestedKey.text "part" ∈ [NestedKey.text "card", .text "visit"] := by decide +kernel
  have k5 : ¬ NestedKey.text "join" ∈ [NestedKey.text "card", .text "visit"] := by decide +kernel
  have k6 : ¬ NestedKey.text "home" ∈ [NestedKey.text "card", .text "visit"] := by decide +kernel
  have k7 : ¬ NestedKey.text "mourn" ∈ [NestedKey.text "card", .text "visit"] := by decide +kernel
  have k8 : ¬ NestedKey.text "ahead" ∈ [NestedKey.text "card", .text "visit"] := by decide +kernel
  cases p <;> first
    | exact decide_eq_true k1
    | exact decide_eq_true k2
    | exact decide_eq_false k3
    | exact decide_eq_false k4
    | exact decide_eq_false k5
    | exact decide_eq_false k6
    | exact decide_eq_false k7
    | exact decide_eq_false k8
omit T in
theorem part_homes (a b : Str) : ∀ (L : List Due) (ws : WS), (L.foldl (WS.partStep a b) ws).homes = ws.homes
  | [], _ => rfl
  | d :: L, ws => by
    rw [List.foldl_cons, part_homes a b L]
    unfold WS.partStep
    split <;> rfl
omit T in
theorem act_go (ws : WS) (p : Pg) (h : p.isGo = true) : ws.act p = ws.go p p.fst p.snd := by
  cases p <;> first
    | rfl
    | cases h
omit T in
theorem goAll (H : Hp) : KAll H [.str "card", .str "visit"] [NestedKey.text "card", .text "visit"] := .cons (.text _) (.cons (.text _) .nil)
def spPut (P : Program) (w : World) (C : Addr) : Sp := fun vs H Q _ => ∃ a fx n ws v p, vs = [.ref a.x, v] ∧ W P w H C a fx n ws ∧ n + 1 ≤ 2000 ∧ KAt H v (Pg.key p) ∧ (p ∉ fx.lost → p.isGo = true → Pg.snd p ∈ akeys ws.homes) ∧ (∀ x ∈ akeys ws.falls, x.2.2 ∈ akeys ws.sorts) ∧ (akeys ws.falls).Nodup ∧ ws.falls.length ≤ 2000 ∧
  ∀ u H' a', Stp H H' a a' → W P w H' C a' fx (n + 1) (ws.put fx.lost p).1 → KAt H' u (mkK (ws.put fx.lost p).2) → Q u H'
theorem ok_put : Ok P w K mg base 4 ("Walk", some "put") ["self", "page"] (spPut P w (cW K)) := by
  have G0 := ok_page_kind (P := P) (w := w) (base := base) T
  have G1 := ok_go (P := P) (w := w) (base := base) T
  have G2 := ok_part (P := P) (w := w) (base := base) T
  have G3 := ok_join (P := P) (w := w) (base := base) T
  refine ok_of T.f_Walk_put c_Walk_put (fun _ _ _ _ _ _ us hl => match us, hl with | [_, _], _ => rfl) (fun vs H Q E ⟨a, fx, n, ws, v, p, e, _⟩ => by rw [e]; rfl) (fun cdv A outer s0 H vs Q E hr h => ?_)
  obtain ⟨a, fx, n, ws, v, p, rfl, x, hn, hv, hh, hs, hd, hl, q⟩ := h
  have hu := hr.units
  have hu1 : _ + 1 < cLine := hu_of hr
  have hr3 : Room 3 _ := hr
  have hr1 : Room 1 _ := hr.mono (by decide)
  refine ⟨_, pss_cons (ps_set (i := 2) c_Walk_put.nd rfl (.inl rfl) (pe_fn G0 hr1 (by rfl) T.g_page_kind (pa_cons (pv 1) pa_nil)))
    (pss_cons (ps_if (pt_cmpR (op_nin hu) (pv 1) (pe_fld (pv 0) rfl) (by with_unfolding_all rfl)) (pss_one (ps_ret (pe_tup (pa_cons pe_str pa_nil)))) pss_nil)
    (pss_cons (ps_if (pt_cmpR (op_inN hu) (pv 2) (pe_glob (v := .ref (He.ga K "GOINGS")) rfl T.g_GOINGS rfl) (by with_unfolding_all rfl)) (pss_one (ps_ret (pe_mt G1 hr3 (pv 0) T.cl_Walk T.m_Walk_go (pa_cons (pv 1) pa_nil)))) pss_nil)
    (pss_cons (ps_if (pt_cmpR op_eq (pv 2) pe_str (nomark _)) (pss_cons (ps_expr (pe_mt G2 hr1 (pv 0) T.cl_Walk T.m_Walk_part (pa_cons (pe_ix ix_tup (pv 1) pe_int (fun _ _ => rfl)) (pa_cons (pe_ix ix_tup (pv 1) pe_int (fun _ _ => rfl)) pa_nil)))) (pss_one (ps_dput hu1 (pe_fld (pv 0) rfl) (pe_ix ix_tup (pv 1) pe_int (fun _ _ => rfl)) (pe_ix ix_tup (pv 1) pe_int (fun _ _ => rfl)) rfl))) pss_nil)
    (pss_cons (ps_if (pt_cmpR op_eq (pv 2) pe_str (nomark _)) (pss_one (ps_expr (pe_mt G3 hr3 (pv 0) T.cl_Walk T.m_Walk_join (pa_cons (pe_ix ix_tup (pv 1) pe_int (fun _ _ => rfl)) (pa_cons (pe_ix ix_tup (pv 1) pe_int (fun _ _ => rfl)) pa_nil))))) pss_nil)
    (pss_cons (ps_if (pt_cmpR (op_inN hu) (pv 2) (pe_tup (pa_cons pe_str (pa_cons pe_str pa_nil))) (by with_unfolding_all rfl)) (pss_one (ps_dput hu1 (pe_fld (pv 0) rfl) (pe_ix ix_tup (pv 1) pe_int (fun _ _ => rfl)) (pe_ix ix_tup (pv 1) pe_int (fun _ _ => rfl)) rfl)) pss_nil)
    (pss_cons (ps_if (pt_cmpR op_eq (pv 2) pe_str (nomark _)) (pss_one (ps_expr (pe_bm PySem.F.plainAttrs_list PySem.F.slot_list_append PySem.F.type_list_append mt_append (pe_dsetd (pe_fld (pv 0) rfl) (pe_ix ix_tup (pv 1) pe_int (fun _ _ => rfl)) (pe_lst pa_nil) ⟨rfl, rfl, rfl, rfl⟩)
        (pa_cons (pe_tup (pa_cons (pe_ix ix_tup (pv 1) pe_int (fun _ _ => rfl)) (pa_cons (pe_op op_sub (pe_op op_add (pe_ix ix_tup (pv 1) pe_int (fun _ _ => rfl)) (pe_ix ix_tup (pv 1) pe_int (fun _ _ => rfl))) pe_int) pa_nil))) pa_nil)))) pss_nil)
    (pss_one (ps_ret (pe_tup (pa_cons pe_str pa_nil)))))))))), ?_⟩
  have fin : ∀ {H1 : Hp} {a1 : WAd} {ws1 : WS} {D : Ends}, Stp H H1 a a1 → W P w H1 (cW K) a1 fx (n + 1) ws1 → ws.put fx.lost p = (ws1, .done) → D.rt = Q → tRet (tTup (tCons (tC (.str "done")) tNil)) D [] H1 := fun {H1 a1 ws1 D} st x1 e eD =>
    s_retK (σ := []) (ek_tup (eks_cons ek_str eks_nil)) fun u H7 s7 hu7 => eD ▸ q u H7 a1 (st.trans (.same s7 a1)) (by rw [e]; exact x1.same s7) (by rw [e]; exact hu7)
  refine Evl.s_asg (EvK.text (ek_call (eks_cons (ek_var rfl hv) eks_nil) ⟨p, rfl, rfl⟩)) fun H1 s1 => ?_
  have x1 := x.same s1
  obtain ⟨kl, dnl, _, hlost⟩ := x1.lost
  refine Evl.s_if (b := decide (p ∈ fx.lost)) (et_T (Evl.ev_is (eb_nin' (ks := p.items) (ek_var rfl (hv.mono s1)) (x1.e3 T (Evl.ev_var rfl)) dnl (pg_depth8 p)) (congrArg V.bl (hlost p)))) (fun hb H2 s2 => ?_) (fun hb H2 s2 => ?_)
  · have e : ws.put fx.lost p = (ws, .idle) := by unfold WS.put; rw [if_pos (of_decide_eq_true hb)]
    refine s_retK (σ := []) (ek_tup (eks_cons ek_str eks_nil)) fun u H3 s3 hu3 => ?_
    exact q u H3 a (.same (Same.tr (s1.tr s2) s3) a) (by rw [e]; exact (x1.same (Same.tr s2 s3)).more (Nat.le_succ n) hn) (by rw [e]; exact hu3)
  have hnl := of_decide_eq_false hb
  have e0 : ws.put fx.lost p = ws.act p := by unfold WS.put; rw [if_neg hnl]
  have s12 : Same H H2 := s1.tr s2
  have x2 := x1.same s2
  refine s_nil ?_
  dsimp only
  refine Evl.s_if (b := p.isGo) (et_T (Evl.ev_is (eb_in (neg := false) (ek_text (Evl.ev_var rfl)) Evl.ev_c (.inr (T.goings H2)) (goAll H2) (by decide)) (congrArg V.bl (go_eq p)))) (fun hb H3 s3 => ?_) (fun hb H3 s3 => ?_)
  · have x3 := x2.same s3
    have s13 : Same H H3 := s12.tr s3
    refine me_K (Evl.ev_var rfl) x3.ins (a.m3 _ _ _ _) (eks_cons (ek_var rfl (hv.mono s13)) eks_nil) fun vs H4 s4 hvs => ?_
    cases hvs with
    | cons g1 hvs =>
    cases hvs
    have x4 := (x3.same s4).more (Nat.le_succ n) hn
    refine ⟨a, fx, n + 1, ws, _, p, rfl, x4, g1, hb, hh hnl hb, hs, hd, by omega, Nat.succ_le_succ x.bnd.1, Nat.succ_le_succ x.bnd.2.2, fun u H5 a5 st5 x5 hu5 => ?_⟩
    rw [← act_go ws p hb, ← e0] at x5 hu5
    exact q u H5 a5 ((Stp.same (s13.tr s4) a).trans st5) x5 hu5
  have s13 : Same H H3 := s12.tr s3
  have x3 := x2.same s3
  refine s_nil ?_
  dsimp only
  have kt : ∀ {s : Str} {b : Bool} {H1 : Hp} {σ : L2.St}, σ[2]? = some (some (V.str p.kind)) → decide (p.kind = s) = b → EvT (tTest (tOp rEq (tVar 2) (tC (.str s)))) σ H1 b := fun z e => e ▸ et_T (eb_eqT (Evl.ev_var z) Evl.ev_c)
  have it : ∀ {H1 : Hp} {i : Int} {k : NestedKey} {σ : L2.St}, σ[1]? = some (some v) → KAt H1 v p.key → atI p.items i = some k → EvK (tOp (rIxT K) (tVar 1) (tC (.int i))) σ H1 k := fun z hv e => ek_ix (ek_var z hv) Evl.ev_c e
  have hv3 := hv.mono s13
  have ki : ∀ {b : Bool} {H1 : Hp} {σ : L2.St}, σ[2]? = some (some (V.str p.kind)) → decide (NestedKey.text p.kind ∈ [NestedKey.text "house", .text "home"]) = b → EvT (tTest (tOp (rInN K false) (tVar 2) (tTup (tCons (tC (.str "house")) (tCons (tC (.str "home")) tNil))))) σ H1 b := fun z e => et_T (Evl.ev_is (eb_inK (neg := false) (ek_text (Evl.ev_var z)) (ek_tup (eks_cons ek_str (eks_cons ek_str eks_nil))) (by decide)) (by rw [if_neg Bool.false_ne_true, e]))
  cases p with
  | card d b c => cases hb
  | visit d b c => cases hb
  | house d b l =>
    refine s_skip (kt rfl (by show decide (("house" : Str) = "part") = false; decide +kernel)) fun H4 s4 => ?_
    dsimp only
    refine s_skip (kt rfl (by show decide (("house" : Str) = "join") = false; decide +kernel)) fun H5 s5 => ?_
    dsimp only
    refine s_take (ki rfl (by show decide (NestedKey.text "house" ∈ [NestedKey.text "house", .text "home"]) = true; decide +kernel)) fun H6 s6 => ?_
    have s36 : Same H3 H6 := Same.tr s4 (Same.tr s5 s6)
    have x6 := x3.same s36
    have hv6 := hv3.mono s36
    refine s_hput (s := b) (l := l) x6 hn (it rfl hv6 rfl) (x6.e4 T (Evl.ev_var rfl)) (EvK.text (it rfl hv6 (Pg.items2 _))) fun H7 st7 x7 => ?_
    dsimp only
    refine s_skip (kt rfl (by show decide (("house" : Str) = "mourn") = false; decide +kernel)) fun H8 s8 => ?_
    exact fin (((Stp.same (s13.tr s36) a).trans st7).trans (.same s8 a)) (x7.same s8) e0 rfl
  | home d b l =>
    refine s_skip (kt rfl (by show decide (("home" : Str) = "part") = false; decide +kernel)) fun H4 s4 => ?_
    dsimp only
    refine s_skip (kt rfl (by show decide (("home" : Str) = "join") = false; decide +kernel)) fun H5 s5 => ?_
    dsimp only
    refine s_take (ki rfl (by show decide (NestedKey.text "home" ∈ [NestedKey.text "house", .text "home"]) = true; decide +kernel)) fun H6 s6 => ?_
    have s36 : Same H3 H6 := Same.tr s4 (Same.tr s5 s6)
    have x6 := x3.same s36
    have hv6 := hv3.mono s36
    refine s_hput (s := b) (l := l) x6 hn (it rfl hv6 rfl) (x6.e4 T (Evl.ev_var rfl)) (EvK.text (it rfl hv6 (Pg.items2 _))) fun H7 st7 x7 => ?_
    dsimp only
    refine s_skip (kt rfl (by show decide (("home" : Str) = "mourn") = false; decide +kernel)) fun H8 s8 => ?_
    exact fin (((Stp.same (s13.tr s36) a).trans st7).trans (.same s8 a)) (x7.same s8) e0 rfl
  | part d b c l =>
    refine s_take (kt rfl (by show decide (("part" : Str) = "part") = true; decide +kernel)) fun H4 s4 => ?_
    have x4 := x3.same s4
    have hv4 := hv3.mono s4
    refine me_K (Evl.ev_var rfl) x4.ins (a.m4 _ _ _ _) (eks_cons (it rfl hv4 (Pg.items2 _)) (eks_cons (it rfl hv4 (Pg.items3 _ rfl)) eks_nil)) fun vs H5 s5 hvs => ?_
    cases hvs with
    | cons g1 hvs =>
    cases hvs with
    | cons g2 hvs =>
    cases hvs; cases g1; cases g2
    refine ⟨a, fx, n, ws, b, c, rfl, x4.same s5, hl, fun H6 st6 x6 => ?_⟩
    have hv6 := KAt.keep st6.tup _ _ (hv4.mono s5)
    refine s_hput (s := c) (l := l) x6 hn (it rfl hv6 rfl) (x6.e4 T (Evl.ev_var rfl)) (EvK.text (it rfl hv6 (Pg.items3 _ rfl))) fun H7 st7 x7 => ?_
    dsimp only
    refine s_skip (kt rfl (by show decide (("part" : Str) = "join") = false; decide +kernel)) fun H8 s8 => ?_
    dsimp only
    refine s_skip (ki rfl (by show decide (NestedKey.text "part" ∈ [NestedKey.text "house", .text "home"]) = false; decide +kernel)) fun H9 s9 => ?_
    dsimp only
    refine s_skip (kt rfl (by show decide (("part" : Str) = "mourn") = false; decide +kernel)) fun H10 s10 => ?_
    have s8t : Same H7 H10 := Same.tr s8 (Same.tr s9 s10)
    have eh : (ws.part b c).homes = ws.homes := part_homes b c _ ws
    rw [eh] at x7
    exact fin (((((Stp.same (s13.tr s4) a).trans (.same s5 a)).trans st6).trans st7).trans (.same s8t a)) (x7.same s8t) e0 rfl
  | join d b c =>
    refine s_skip (kt rfl (by show decide (("join" : Str) = "part") = false; decide +kernel)) fun H4 s4 => ?_
    dsimp only
    refine s_take (kt rfl (by show decide (("join" : Str) = "join") = true; decide +kernel)) fun H5 s5 => ?_
    have s35 : Same H3 H5 := Same.tr s4 s5
    have x5 := x3.same s35
    have hv5 := hv3.mono s35
    refine me_K (Evl.ev_var rfl) x5.ins (a.m5 _ _ _ _) (eks_cons (it rfl hv5 (Pg.items2 _)) (eks_cons (it rfl hv5 (Pg.items3 _ rfl)) eks_nil)) fun vs H6 s6 hvs => ?_
    cases hvs with
    | cons g1 hvs =>
    cases hvs with
    | cons g2 hvs =>
    cases hvs; cases g1; cases g2
    refine ⟨a, fx, n, ws, b, c, rfl, x5.same s6, hl, hd, fun H7 st7 x7 => ?_⟩
    dsimp only
    refine s_skip (ki rfl (by show decide (NestedKey.text "join" ∈ [NestedKey.text "house", .text "home"]) = false; decide +kernel)) fun H9 s9 => ?_
    dsimp only
    refine s_skip (kt rfl (by show decide (("join" : Str) = "mourn") = false; decide +kernel)) fun H10 s10 => ?_
    have s8t : Same H7 H10 := Same.tr s9 s10
    exact fin ((((Stp.same (s13.tr s35) a).trans (.same s6 a)).trans st7).trans (.same s8t a)) ((x7.same s8t).more (Nat.le_succ n) hn) e0 rfl
  | mourn d b m =>
    refine s_skip (kt rfl (by show decide (("mourn" : Str) = "part") = false; decide +kernel)) fun H4 s4 => ?_
    dsimp only
    refine s_skip (kt rfl (by show decide (("mourn" : Str) = "join") = false; decide +kernel)) fun H5 s5 => ?_
    dsimp only
    refine s_skip (ki rfl (by show decide (NestedKey.text "mourn" ∈ [NestedKey.text "house", .text "home"]) = false; decide +kernel)) fun H6 s6 => ?_
    dsimp only
    refine s_take (kt rfl (by show decide (("mourn" : Str) = "mourn") = true; decide +kernel)) fun H7 s7 => ?_
    have s37 : Same H3 H7 := Same.tr s4 (Same.tr s5 (Same.tr s6 s7))
    have x7 := x3.same s37
    have hv7 := hv3.mono s37
    refine s_mput (s := b) (i := d) (j := d + m - 1) x7 hn (x7.e5 T (Evl.ev_var rfl)) (EvK.text (it rfl hv7 (Pg.items2 _))) (fun H8 a8 st8 => ?_) fun H8 a8 st8 x8 => ?_
    · have hv8 := KAt.keep st8.tup _ _ hv7
      exact Evl.ea_cons (EvK.num (it rfl hv8 (Pg.items1 _))) (Evl.ea_cons (Evl.ev_op (Evl.ev_op (EvK.num (it rfl hv8 (Pg.items1 _))) (EvK.num (it rfl hv8 rfl)) Evl.rv_I0) Evl.ev_c Evl.rv_I0) Evl.ea_nil)
    · exact fin ((Stp.same (s13.tr s37) a).trans st8) x8 e0 rfl
  | ahead d b c =>
    refine s_skip (kt rfl (by show decide (("ahead" : Str) = "part") = false; decide +kernel)) fun H4 s4 => ?_
    dsimp only
    refine s_skip (kt rfl (by show decide (("ahead" : Str) = "join") = false; decide +kernel)) fun H5 s5 => ?_
    dsimp only
    refine s_skip (ki rfl (by show decide (NestedKey.text "ahead" ∈ [NestedKey.text "house", .text "home"]) = false; decide +kernel)) fun H6 s6 => ?_
    dsimp only
    refine s_skip (kt rfl (by show decide (("ahead" : Str) = "mourn") = false; decide +kernel)) fun H7 s7 => ?_
    have s37 : Same H3 H7 := Same.tr s4 (Same.tr s5 (Same.tr s6 s7))
    exact fin (.same (s13.tr s37) a) ((x3.same s37).more (Nat.le_succ n) hn) e0 rfl
end
end CB
/-! CBN1 -/
set_option Elab.async false
set_option autoImplicit false
set_option linter.all false
set_option maxRecDepth 100000
set_option maxHeartbeats 2000000
/-! Walk.__init__. -/
namespace CB
open PySem PySem.Spec PyProof.Rows L2
open Evl (Ev EvT EvA EvO)
/-- an object whose fields are being laid -/
structure Ini (C dx : Addr) (H H1 : Hp) (p : Addr) (fs : List (Str × V)) (L : List (Addr × HO)) : Prop where
  ins : H1 p = some (.ins C dx fs)
  keep : ∀ b u, b ≠ p → H b = some u → H1 b = some u
  old : ∃ u, H p = some u
  objs : ∀ x ∈ L, H x.1 = none ∧ H1 x.1 = some x.2
  nd : (L.map (·.1)).Nodup
theorem DNo.nil {P : Program} {w : World} {H : Hp} {d : Addr} {o : Obj} (x : DNo P w H d o []) (H' : Hp) : DNo P w H' d o [] := by
  obtain ⟨h1, h2, es, ep, xs, h3, h4, h5, h6, h7⟩ := x
  cases h7
  exact ⟨h1, h2, es, ep, [], h3, h4, h5, h6, .nil⟩
section
variable {C dx : Addr} {H H1 H2 : Hp} {p d : Addr} {fs : List (Str × V)} {L : List (Addr × HO)} {f : Str} {v : V} {o : HO}
theorem Ini.same (I : Ini C dx H H1 p fs L) (s : Same H1 H2) : Ini C dx H H2 p fs L :=
  ⟨s _ _ I.ins, fun b u hb e => s _ _ (I.keep b u hb e), I.old, fun x hx => ⟨(I.objs x hx).1, s _ _ (I.objs x hx).2⟩, I.nd⟩
theorem Ini.fld (I : Ini C dx H H1 p fs L) : Ini C dx H (upd H1 p (.ins C dx (putF f v fs))) p (putF f v fs) L :=
  ⟨upd_same, fun b u hb e => by rw [upd_ne hb]; exact I.keep b u hb e, I.old, fun x hx => ⟨(I.objs x hx).1, by
    obtain ⟨u, hu⟩ := I.old
    have ne : x.1 ≠ p := fun z => by have := (I.objs x hx).1; rw [z, hu] at this; cases this
    rw [upd_ne ne]; exact (I.objs x hx).2⟩, I.nd⟩
theorem Ini.new (I : Ini C dx H H1 p fs L) (hd : H1 d = none) (h1 : H2 d = some o) (h2 : ∀ b, b ≠ d → H2 b = H1 b) : Ini C dx H H2 p fs ((d, o) :: L) := by
  have k : ∀ b u, H1 b = some u → H2 b = some u := fun b u e => by rw [h2 b (ne_of_none e hd)]; exact e
  have pd : d ≠ p := fun z => by rw [z, I.ins] at hd; cases hd
  refine ⟨k _ _ I.ins, fun b u hb e => k _ _ (I.keep b u hb e), I.old, fun x hx => ?_, ?_⟩
  · rcases List.mem_cons.mp hx with rfl | hx
    · refine ⟨?_, h1⟩
      cases e : H d with
      | none => rfl
      | some u => rw [I.keep d u pd e] at hd; cases hd
    · exact ⟨(I.objs x hx).1, k _ _ (I.objs x hx).2⟩
  · rw [List.map_cons, List.nodup_cons]
    refine ⟨fun hm => ?_, I.nd⟩
    obtain ⟨x, hx, e⟩ := List.mem_map.mp hm
    have := (I.objs x hx).2
    have e' : x.1 = d := e
    rw [e', hd] at this; cases this
theorem Ini.start {fs : List (Str × V)} (h : H p = some (.ins C dx fs)) : Ini C dx H H p fs [] := ⟨h, fun _ _ _ e => e, ⟨_, h⟩, fun x hx => (nomatch hx), List.nodup_nil⟩
end
section
variable {P : Program} {w : World} {K : PySem.W.Frag} {C dx : Addr} {H H1 : Hp} {p : Addr} {fs : List (Str × V)} {L : List (Addr × HO)} {f : Str} {v : V} {σ : L2.St} {tv : TE} {D : Ends}
theorem s_iniV (I : Ini C dx H H1 p fs L) (h0 : σ[0]? = some (some (.ref p))) (hc : Cls K C) (hn : NoAttr K C f) (hl : fs.length < 1000) (hv : Ev tv σ H1 v) (q : ∀ H2, Ini C dx H H2 p (putF f v fs) L → D.nx σ H2) : sFld K (tVar 0) tv f D σ H1 :=
  hv H1 (Evl.Ex.refl _) _ fun H2 s2 => ⟨_, h0, p, C, dx, fs, rfl, (I.same s2).ins, hc, hn, hl, q _ (I.same s2).fld⟩
theorem s_iniK (I : Ini C dx H H1 p fs L) (h0 : σ[0]? = some (some (.ref p))) (hc : Cls K C) (hn : NoAttr K C f) (hl : fs.length < 1000) (q : ∀ d H2, Ini C dx H H2 p (putF f (.ref d) fs) ((d, .dK []) :: L) → D.nx σ H2) : sFld K (tVar 0) tDNewK f D σ H1 :=
  fun d hd => by
    have I2 : Ini C dx H (upd H1 d (.dK [])) p fs ((d, .dK []) :: L) := I.new hd upd_same fun b hb => upd_ne hb
    exact ⟨_, h0, p, C, dx, fs, rfl, I2.ins, hc, hn, hl, q d _ I2.fld⟩
theorem s_iniL (I : Ini C dx H H1 p fs L) (h0 : σ[0]? = some (some (.ref p))) (hc : Cls K C) (hn : NoAttr K C f) (hl : fs.length < 1000) (q : ∀ d H2, Ini C dx H H2 p (putF f (.ref d) fs) ((d, .lst []) :: L) → D.nx σ H2) : sFld K (tVar 0) (tLst tNil) f D σ H1 :=
  ⟨Nat.le_of_ble_eq_true rfl, fun d hd => by
    have I2 : Ini C dx H (upd H1 d (.lst [])) p fs ((d, .lst []) :: L) := I.new hd upd_same fun b hb => upd_ne hb
    exact ⟨_, h0, p, C, dx, fs, rfl, I2.ins, hc, hn, hl, q d _ I2.fld⟩⟩
theorem s_iniN (I : Ini C dx H H1 p fs L) (h0 : σ[0]? = some (some (.ref p))) (hc : Cls K C) (hn : NoAttr K C f) (hl : fs.length < 1000) (q : ∀ d o H2, Ini C dx H H2 p (putF f (.ref d) fs) ((d, exO d o) :: L) → (∀ H', DNo P w H' d o []) → D.nx σ H2) : sFld K (tVar 0) (tNNew P w) f D σ H1 :=
  fun d H2 hd h2 ⟨o, ho, hdn⟩ => by
    have I2 : Ini C dx H H2 p fs ((d, exO d o) :: L) := I.new hd ho h2
    exact ⟨_, h0, p, C, dx, fs, rfl, I2.ins, hc, hn, hl, q d o _ I2.fld hdn.nil⟩
end
section
variable {P : Program} {w : World} {K : PySem.W.Frag} {mg : Str → Option Value} {base : Heap} (T : Tp K mg)
include T
def spWInit (P : Program) (w : World) (C : Addr) : Sp := fun vs H Q _ => ∃ (p dx b t : Addr) (bk : List Pg) (tm : Int × Int), vs = [.ref p, .ref b, .ref t] ∧ H p = some (.ins C dx []) ∧ KAt H (.ref b) (.tup (pgs bk)) ∧ KAt H (.ref t) (.tup [.num tm.1, .num tm.2]) ∧
  ∀ a H', a.x = p → W P w H' C a ⟨bk, tm, []⟩ 0 WS.start → (∀ c o, H c = some o → c ≠ p → H' c = some o) → (∀ c ∈ a.fp, c = p ∨ H c = none) → Q .non H'
theorem ok_winit : Ok P w K mg base 1 ("Walk", some "__init__") ["self", "book", "terms"] (spWInit P w (cW K)) := by
  refine ok_of T.f_Walk_init c_Walk_init (fun _ _ _ _ _ _ us hl => match us, hl with | [_, _, _], _ => rfl) (fun vs H Q E ⟨p, dx, b, t, bk, tm, e, _⟩ => by rw [e]; rfl) (fun cdv A outer s H vs Q E hr h => ?_)
  obtain ⟨p, dx, b, t, bk, tm, rfl, hp, hb, ht, q⟩ := h
  refine ⟨_, pss_cons (ps_fld (pv 0) (pv 1) rfl) (pss_cons (ps_fld (pv 0) (pv 2) rfl) (pss_cons (ps_fld (pv 0) pe_nnew rfl) (pss_cons (ps_fld (pv 0) pe_dnewK rfl) (pss_cons (ps_fld (pv 0) pe_dnewK rfl) (pss_cons (ps_fld (pv 0) pe_nnew rfl) (pss_cons (ps_fld (pv 0) pe_nnew rfl)
    (pss_cons (ps_fld (pv 0) (pe_lst pa_nil) rfl) (pss_cons (ps_fld (pv 0) (pe_lst pa_nil) rfl) (pss_cons (ps_fld (pv 0) pe_int rfl) (pss_cons (ps_fld (pv 0) pe_int rfl) (pss_cons (ps_fld (pv 0) pe_int rfl) (pss_one (ps_fld (pv 0) pe_int rfl))))))))))))), ?_⟩
  refine s_iniV (Ini.start hp) rfl T.cl_Walk T.n_Walk_own_pages (by decide) (Evl.ev_var rfl) fun H1 I1 => ?_
  refine s_iniV I1 rfl T.cl_Walk T.n_Walk_own_terms (Nat.le_of_ble_eq_true rfl) (Evl.ev_var rfl) fun H2 I2 => ?_
  refine s_iniN I2 rfl T.cl_Walk T.n_Walk_lost (Nat.le_of_ble_eq_true rfl) fun d1 o1 H3 I3 z1 => ?_
  refine s_iniK I3 rfl T.cl_Walk T.n_Walk_homes (Nat.le_of_ble_eq_true rfl) fun d2 H4 I4 => ?_
  refine s_iniK I4 rfl T.cl_Walk T.n_Walk_mourned (Nat.le_of_ble_eq_true rfl) fun d3 H5 I5 => ?_
  refine s_iniN I5 rfl T.cl_Walk T.n_Walk_sorts (Nat.le_of_ble_eq_true rfl) fun d4 o4 H6 I6 z4 => ?_
  refine s_iniN I6 rfl T.cl_Walk T.n_Walk_falls (Nat.le_of_ble_eq_true rfl) fun d5 o5 H7 I7 z5 => ?_
  refine s_iniL I7 rfl T.cl_Walk T.n_Walk_marks (Nat.le_of_ble_eq_true rfl) fun d6 H8 I8 => ?_
  refine s_iniL I8 rfl T.cl_Walk T.n_Walk_answers (Nat.le_of_ble_eq_true rfl) fun d7 H9 I9 => ?_
  refine s_iniV I9 rfl T.cl_Walk T.n_Walk_made (Nat.le_of_ble_eq_true rfl) Evl.ev_c fun H10 I10 => ?_
  refine s_iniV I10 rfl T.cl_Walk T.n_Walk_copied (Nat.le_of_ble_eq_true rfl) Evl.ev_c fun H11 I11 => ?_
  refine s_iniV I11 rfl T.cl_Walk T.n_Walk_struck (Nat.le_of_ble_eq_true rfl) Evl.ev_c fun H12 I12 => ?_
  refine s_iniV I12 rfl T.cl_Walk T.n_Walk_merged (Nat.le_of_ble_eq_true rfl) Evl.ev_c fun H13 I => ?_
  have tl : TupLe H H13 := fun c ys e => I.keep c _ (fun z => by rw [z, hp] at e; cases e) e
  have g1 := (I.objs (d1, exO d1 o1) (by simp)).2
  have g2 := (I.objs (d2, .dK []) (by simp)).2
  have g3 := (I.objs (d3, .dK []) (by simp)).2
  have g4 := (I.objs (d4, exO d4 o4) (by simp)).2
  have g5 := (I.objs (d5, exO d5 o5) (by simp)).2
  have g6 := (I.objs (d6, .lst []) (by simp)).2
  have g7 := (I.objs (d7, .lst []) (by simp)).2
  have nd : [d7, d6, d5, d4, d3, d2, d1].Nodup := I.nd
  have np : ∀ d ∈ [d7, d6, d5, d4, d3, d2, d1], p ≠ d := fun d hd z => by
    obtain ⟨x, hx, e⟩ := List.mem_map.mp (show d ∈ ([(d7, HO.lst []), (d6, .lst []), (d5, exO d5 o5), (d4, exO d4 o4), (d3, .dK []), (d2, .dK []), (d1, exO d1 o1)] : List (Addr × HO)).map (·.1) from hd)
    have h1 := (I.objs x hx).1
    have e' : x.1 = d := e
    rw [e', ← z, hp] at h1; cases h1
  refine q ⟨p, dx, b, t, d1, d2, d3, d4, d5, d6, d7, [], []⟩ H13 rfl ⟨I.ins, KAt.keep tl _ _ hb, KAt.keep tl _ _ ht, ⟨[], ⟨o1, g1, z1 _⟩, Nat.le_refl _, fun p => rfl⟩, ⟨[], g2, Nat.le_refl _, fun s => ⟨fun _ => rfl, fun l z => (nomatch z)⟩⟩, ⟨[], g3, Nat.le_refl _, fun s => ⟨fun _ => rfl, fun l z => (nomatch z)⟩, fun s s' b h => (nomatch h)⟩,
    ⟨o4, g4, z4 _⟩, ⟨[], ⟨o5, g5, z5 _⟩, .nil⟩, ⟨[], g6, .nil⟩, ⟨[], g7, .nil⟩, fun b hb => (nomatch hb), ?_, ⟨Nat.le_refl _, Nat.le_refl _, Nat.le_refl _⟩, Nat.zero_le _⟩ (fun c o e hc => I.keep c o hc e) (fun c hc => ?_)
  · show [p, d1, d2, d3, d4, d5, d6, d7].Nodup
    have e : [p, d1, d2, d3, d4, d5, d6, d7] = p :: [d7, d6, d5, d4, d3, d2, d1].reverse := rfl
    rw [e, List.nodup_cons]
    refine ⟨fun h => np p (List.mem_reverse.mp h) rfl, List.pairwise_reverse.mpr (nd.imp fun h => Ne.symm h)⟩
  · have hc' : c ∈ [p, d1, d2, d3, d4, d5, d6, d7] := hc
    rcases List.mem_cons.mp hc' with h | h
    · exact .inl h
    · right
      have h' : c ∈ [d7, d6, d5, d4, d3, d2, d1] := by
        have : [d1, d2, d3, d4, d5, d6, d7] = [d7, d6, d5, d4, d3, d2, d1].reverse := rfl
        rw [this] at h
        exact List.mem_reverse.mp h
      obtain ⟨x, hx, e⟩ := List.mem_map.mp (show c ∈ ([(d7, HO.lst []), (d6, .lst []), (d5, exO d5 o5), (d4, exO d4 o4), (d3, .dK []), (d2, .dK []), (d1, exO d1 o1)] : List (Addr × HO)).map (·.1) from h')
      have h1 := (I.objs x hx).1
      have e' : x.1 = c := e
      rw [e'] at h1; exact h1
end
end CB
/-! CBN2 -/
set_option Elab.async false
set_option autoImplicit false
set_option linter.all false
/-! Plain: the run step by step, the bound of the dues. -/
namespace CB
open PySem
theorem run_snoc (t : Int × Int) (lost : List Pg) : ∀ (n : Nat) (first : Int) (s : WS × List Pg), WS.run t lost first (n + 1) s = WS.runDay t lost (WS.run t lost first n s) (first + n)
  | 0, first, s => by
    show WS.runDay t lost s first = WS.runDay t lost s (first + ((0 : Nat) : Int))
    rw [Int.natCast_zero, Int.add_zero]
  | n + 1, first, s => by
    show WS.run t lost (first + 1) (n + 1) (WS.runDay t lost s first) = WS.runDay t lost (WS.run t lost (first + 1) n (WS.runDay t lost s first)) (first + (n + 1 : Nat))
    rw [run_snoc t lost n]
    congr 1
    omega
def goN (l : List Pg) : Nat := l.countP Pg.isGo
def partN (l : List Pg) : Nat := l.countP Pg.isPart
def capN (l : List Pg) : Nat := goN l * 2 ^ partN l
theorem countP_pre {α : Type} (f : α → Bool) {l m : List α} : l.countP f ≤ (l ++ m).countP f := by rw [List.countP_append]; omega
theorem capN_pre (l m : List Pg) : capN l ≤ capN (l ++ m) := by
  unfold capN goN partN
  exact Nat.mul_le_mul (countP_pre _) (Nat.pow_le_pow_right (by decide) (countP_pre _))
theorem goN_snoc (l : List Pg) (p : Pg) : goN (l ++ [p]) = goN l + (if p.isGo = true then 1 else 0) := by
  unfold goN
  rw [List.countP_append, List.countP_cons, List.countP_nil, Nat.zero_add]
theorem partN_snoc (l : List Pg) (p : Pg) : partN (l ++ [p]) = partN l + (if p.isPart = true then 1 else 0) := by
  unfold partN
  rw [List.countP_append, List.countP_cons, List.countP_nil, Nat.zero_add]
theorem foldl_adel_len {κ β : Type} [DecidableEq κ] : ∀ (L : List κ) (m : List (κ × β)), (L.foldl adel m).length ≤ m.length
  | [], _ => Nat.le_refl _
  | d :: L, m => Nat.le_trans (foldl_adel_len L (adel m d)) (List.length_filter_le _ _)
theorem aput_len' {κ β : Type} [DecidableEq κ] (m : List (κ × β)) (k : κ) (v : β) : (aput m k v).length ≤ m.length + 1 := by
  by_cases h : k ∈ akeys m
  · rw [length_aput_has v h]; omega
  · rw [length_aput_new v h]; omega
theorem part_len (a b : Str) : ∀ (L : List Due) (ws : WS), (L.foldl (WS.partStep a b) ws).falls.length ≤ ws.falls.length + L.length
  | [], ws => Nat.le_refl _
  | d :: L, ws => by
    rw [List.foldl_cons]
    have i2 := part_len a b L (WS.partStep a b ws d)
    have s2 : (WS.partStep a b ws d).falls.length ≤ ws.falls.length + 1 := by
      unfold WS.partStep
      split
      · exact aput_len' _ _ _
      · omega
    rw [List.length_cons]; omega
theorem go_len (w : WS) (p : Pg) (a b : Str) : (w.go p a b).1.falls.length ≤ w.falls.length + 1 := by
  unfold WS.go
  split
  · exact aput_len' _ _ _
  · exact Nat.le_succ_of_le (foldl_adel_len _ _)
/-- the dues after a page -/
theorem mark_len {pre : List Pg} {s : HS} {w : WS} {lost : List Pg} {p : Pg} (m : MI pre s w) (hl : p ∈ lost ↔ s.can p = false) (hu : p.unlike) (hb : w.falls.length ≤ capN pre) : (w.mark lost p).falls.length ≤ capN (pre ++ [p]) := by
  have hm := capN_pre pre [p]
  unfold WS.mark WS.put
  by_cases h : p ∈ lost
  · rw [if_pos h]; exact Nat.le_trans hb hm
  · rw [if_neg h]
    have hc : s.can p = true := by
      cases q : s.can p with
      | true => rfl
      | false => exact absurd (hl.mpr q) h
    have gg : p.isGo = true → capN pre + 1 ≤ capN (pre ++ [p]) := fun hg => by
      unfold capN
      rw [goN_snoc, partN_snoc, if_pos hg]
      have e : p.isPart = false := by cases p <;> first | rfl | cases hg
      rw [if_neg (by rw [e]; exact Bool.false_ne_true)]
      simp only [Nat.add_zero]
      rw [Nat.add_mul, Nat.one_mul]
      have := Nat.one_le_two_pow (n := partN pre)
      omega
    cases p with
    | card d a b => exact Nat.le_trans (go_len w _ a b) (Nat.le_trans (Nat.succ_le_succ hb) (gg rfl))
    | visit d a b => exact Nat.le_trans (go_len w _ a b) (Nat.le_trans (Nat.succ_le_succ hb) (gg rfl))
    | house d a hh => exact Nat.le_trans hb hm
    | home d a hh => exact Nat.le_trans hb hm
    | mourn d a k => exact Nat.le_trans hb hm
    | ahead d a b => exact Nat.le_trans hb hm
    | part d a b hh =>
      have h1 := part_len a b (akeys w.falls) w
      rw [keys_len] at h1
      have h2 : capN (pre ++ [Pg.part d a b hh]) = capN pre + capN pre := by
        unfold capN
        rw [goN_snoc, partN_snoc, if_neg (show ¬ (Pg.part d a b hh).isGo = true from Bool.false_ne_true), if_pos (show (Pg.part d a b hh).isPart = true from rfl), Nat.add_zero, Nat.pow_succ, ← Nat.mul_assoc]
        omega
      show (w.part a b).falls.length ≤ _
      unfold WS.part
      omega
    | join d a b =>
      have hc' : (decide (a ∈ s.stands) && decide (b ∈ s.stands)) = true := hc
      simp only [Bool.and_eq_true, decide_eq_true_eq] at hc'
      obtain ⟨i1, i2, i3, i4, i5, i6⟩ := join_fold (a := a) (b := b) hu (C := fun n => n ∈ s.stands) hc'.1 (M := fun q => (q, Mk.due) ∈ w.marks) (akeys w.falls) w m.nodup (fun _ h => h) m.nodup (fun x hx => by
        obtain ⟨o1, o2, o3⟩ := m.own x hx
        exact ⟨.inl hx, o1, o2, o3, m.page x hx⟩)
      show (w.join a b).falls.length ≤ _
      unfold WS.join
      omega
theorem fall_len (t : Int × Int) (day : Int) (w : WS) : (w.fall t day).falls.length = w.falls.length := by
  rw [← keys_len, (fall_facts t day w).2.1, keys_len]
theorem part_marks (a b : Str) : ∀ (L : List Due) (ws : WS), (L.foldl (WS.partStep a b) ws).marks = ws.marks
  | [], _ => rfl
  | d :: L, ws => by
    rw [List.foldl_cons, part_marks a b L]
    unfold WS.partStep
    split <;> rfl
theorem lay_marks (ws : WS) (d : Due) (f : List Int) : (ws.lay d f).marks = ws.marks := by
  unfold WS.lay
  split
  · rfl
  · split <;> rfl
theorem join_marks (a b : Str) : ∀ (L : List Due) (ws : WS), (L.foldl (WS.joinStep a b) ws).marks = ws.marks
  | [], _ => rfl
  | d :: L, ws => by
    rw [List.foldl_cons, join_marks a b L]
    unfold WS.joinStep
    split
    · split
      · rfl
      · rw [lay_marks]
    · rfl
theorem go_marks (w : WS) (p : Pg) (a b : Str) : (w.go p a b).1.marks = w.marks := by
  unfold WS.go
  split <;> rfl
theorem put_marks (lost : List Pg) (w : WS) (p : Pg) : (w.put lost p).1.marks = w.marks := by
  unfold WS.put
  split
  · rfl
  · cases p with
    | card d a b => exact go_marks w _ a b
    | visit d a b => exact go_marks w _ a b
    | part d a b h => exact part_marks a b _ w
    | join d a b => exact join_marks a b _ w
    | house d a h => rfl
    | home d a h => rfl
    | mourn d a m => rfl
    | ahead d a b => rfl
/-- eating one page -/
theorem eat_cons (lost : List Pg) (day : Int) (p : Pg) (r : List Pg) (w : WS) (h : p.day = day) : WS.eat lost day (p :: r) w = WS.eat lost day r (w.mark lost p) := by
  show (if p.day = day then _ else _) = _
  rw [if_pos h]
theorem eat_stop (lost : List Pg) (day : Int) (p : Pg) (r : List Pg) (w : WS) (h : p.day ≠ day) : WS.eat lost day (p :: r) w = (w, p :: r) := by
  show (if p.day = day then _ else _) = _
  rw [if_neg h]
end CB
/-! CBN3 -/
set_option Elab.async false
set_option autoImplicit false
set_option linter.all false
set_option maxRecDepth 100000
set_option maxHeartbeats 2000000
/-! Walk.go_to. -/
namespace CB
open PySem PySem.Spec PyProof.Rows L2
open Evl (Ev EvT EvA EvO)
structure Bk (bk : List Pg) : Prop where
  nodup : bk.Nodup
  rise : rising bk
  unl : ∀ p ∈ bk, p.unlike
  days : ∀ p ∈ bk, 0 ≤ p.day ∧ p.day ≤ 90000
  len : bk.length ≤ 900
  cap : capN bk ≤ 2000
theorem Bk.nil : Bk [] := ⟨List.nodup_nil, List.Pairwise.nil, fun _ h => (nomatch h), fun _ h => (nomatch h), Nat.zero_le _, Nat.zero_le _⟩
theorem Bk.filter {bk : List Pg} (b : Bk bk) (f : Pg → Bool) : Bk (bk.filter f) :=
  ⟨b.nodup.filter _, b.rise.filter _, fun p hp => b.unl p (List.mem_filter.mp hp).1, fun p hp => b.days p (List.mem_filter.mp hp).1, Nat.le_trans (List.length_filter_le _ _) b.len,
    Nat.le_trans (Nat.mul_le_mul (List.Sublist.countP_le List.filter_sublist) (Nat.pow_le_pow_right (by decide) (List.Sublist.countP_le List.filter_sublist))) b.cap⟩
section
variable {P : Program} {w : World} {H H' : Hp} {C : Addr} {a : WAd} {bk : List Pg} {t : Int × Int} {ls ls' : List Pg} {n : Nat} {ws : WS}
theorem W.wLostUp (x : W P w H C a ⟨bk, t, ls⟩ n ws) (k : Kp H H' a.lost) (nf : CB.wLost P w H' a ls') : W P w H' C a ⟨bk, t, ls'⟩ n ws := by
  obtain ⟨m1, m2, m3, m4, m5, m6, m7, m8, m9, m10⟩ := a.mem
  have tl := x.tupLe m2 k
  obtain ⟨n1, n2, n3, n4, n5, n6, n7⟩ := WAd.fxne x.nd
  simp only [List.mem_cons, List.not_mem_nil, or_false, not_or] at n1 n2 n3 n4 n5 n6 n7
  have nl := (WAd.nes x.nd).2.1 a.lost (by simp [WAd.fx])
  exact ⟨k _ _ n1.1 x.ins, KAt.keep tl _ _ x.book, KAt.keep tl _ _ x.tm, nf, x.homes.keep tl fun u => k _ u (Ne.symm n2.1), x.mourned.keep tl (fun u => k _ u (Ne.symm n2.2.1)) fun b hb u => k b u fun z => nl.1 (z ▸ hb),
    x.sorts.keep tl fun u => k _ u (Ne.symm n2.2.2.1), x.falls.keep tl fun u => k _ u (Ne.symm n2.2.2.2.1), x.marks.keep tl fun u => k _ u (Ne.symm n2.2.2.2.2.1), x.ans.keep tl (fun u => k _ u (Ne.symm n2.2.2.2.2.2)) fun b hb u => k b u fun z => nl.2 (z ▸ hb), fun b hb => let ⟨xs, e⟩ := x.mls b hb; ⟨xs, k b _ (fun z => (List.mem_append.mp hb).elim (fun q => nl.1 (z ▸ q)) fun q => nl.2 (z ▸ q)) e⟩, x.nd, x.bnd, x.le⟩
end
section
variable {P : Program} {w : World} {K : PySem.W.Frag} {σ : L2.St} {H : Hp} {ta tb td ty tv : TE} {p : Addr} {xs : List V} {ks : List NestedKey} {k : NestedKey} {i : Int} {D : Ends} {a : WAd} {n : Nat} {ws : WS}
theorem ek_lix (ha : Ev ta σ H (.ref p)) (hs : SqL K H p xs) (hk : KAll H xs ks) (hi : Ev tb σ H (.int i)) (h : atI ks i = some k) : EvK (tOp (rIxL K) ta tb) σ H k := fun H1 e Q q =>
  ha H1 e _ fun H2 e2 => hi H2 (e.tr e2) _ fun H3 e3 => by
    obtain ⟨y, h3, h4⟩ := kall_atI (hk.mono ((e.tr e2).tr e3)) h
    exact ⟨p, xs, i, y, rfl, rfl, sqL_same ((e.tr e2).tr e3) hs, h3, q y H3 (e2.tr e3) h4⟩
theorem eb_nnil (h : Ev ta σ H (.ref p)) (hs : SqL K H p xs) : Ev (tOp (rEqNil K true) ta (tLst tNil)) σ H (.bl (!xs.isEmpty)) := fun H1 e Q q =>
  h H1 e _ fun H2 e2 => ⟨by decide, fun l hl => ⟨p, l, xs, rfl, rfl, sqL_same ((Same.tr e e2).tr (.up hl)) hs, .of upd_same, by rw [if_pos rfl]; exact q _ (e2.tr (.up hl))⟩⟩
/-- self.lost[p] = True -/
theorem s_lput {bk : List Pg} {t : Int × Int} {ls : List Pg} {pg : Pg} (x : W P w H (cW K) a ⟨bk, t, ls⟩ n ws) (h : Ev td σ H (.ref a.lost)) (hk : EvK ty σ H pg.key) (hl : ls.length ≤ 1000) (q : ∀ H', Stp H H' a a → W P w H' (cW K) a ⟨bk, t, ls ++ [pg]⟩ n ws → D.nx σ H') : sNPut P w td ty (tC (.bl true)) D σ H :=
  h H (Evl.Ex.refl _) _ fun H1 s1 => hk H1 s1 _ fun y H2 s2 hy => by
    have s12 : Same H H2 := s1.tr s2
    have x2 := x.same s12
    obtain ⟨kvs, dn, hlen, hmem⟩ := x2.lost
    refine ⟨a.lost, kvs, pg.items, rfl, dn, hy, pg_depth8 pg, smallN (by have : kvs.length ≤ ls.length := hlen; omega), fun H' k dn' => ?_⟩
    have kp : Kp H2 H' a.lost := fun b u hb e => by rw [k b hb]; exact e
    have m2 : a.lost ∈ a.fp := a.mem.2.1
    refine q H' ((Stp.same s12 a).trans (x2.stp m2 kp)) (x2.wLostUp kp ⟨_, dn', ?_, fun p => ?_⟩)
    · have h1 := length_putK kvs (NestedKey.tup pg.items) (V.bl true)
      have h2 : kvs.length ≤ ls.length := hlen
      rw [List.length_append, List.length_singleton]; omega
    · show (valV (putK kvs pg.key (V.bl true)) p.key).isSome = decide (p ∈ ls ++ [pg])
      rw [valV_put]
      by_cases e : p = pg
      · rw [if_pos (by rw [e]), e]
        simp
      · rw [if_neg fun z => e (Pg.key_inj z), hmem p]
        show decide (p ∈ ls) = _
        exact decide_eq_decide.mpr (by simp [e])
/-- self.marks.append((page, self.put(page))) -/
theorem s_mark {mg : Str → Option Value} (T : Tp K mg) {fx : WFix} {pg : Pg} {tix to : TE} (x : W P w H (cW K) a fx n ws) (hm : Ev to σ H (.ref a.marks)) (h0 : σ[0]? = some (some (V.ref a.x))) (hix : EvK tix σ H pg.key) (hn : n + 1 ≤ 2000) (h1 : pg ∉ fx.lost → pg.isGo = true → Pg.snd pg ∈ akeys ws.homes)
    (h2 : ∀ x ∈ akeys ws.falls, x.2.2 ∈ akeys ws.sorts) (h3 : (akeys ws.falls).Nodup) (h4 : ws.falls.length ≤ 2000)
    (q : ∀ H' a', Stp H H' a a' → W P w H' (cW K) a' fx (n + 1) (ws.mark fx.lost pg) → D.nx σ H') :
    tDrop (tBM K "list" rAppend to (tCons (tTup (tCons tix (tCons (tMeth (cW K) "put" (spPut P w (cW K)) [] E0 (tVar 0) (tCons tix tNil)) tNil))) tNil)) D σ H := by
  refine hm H (Evl.Ex.refl _) _ fun H1 s1 => ?_
  obtain ⟨xs, e1, e2⟩ := (x.same s1).marks
  refine ⟨.inl ⟨rfl, xs, .of e1⟩, hix H1 s1 _ fun v1 H2 s2 hv1 => ?_⟩
  have x2 := x.same (s1.tr s2)
  refine me_K (Evl.ev_var h0) x2.ins (a.m7 _ _ _ _) (eks_cons (hix.mono (s1.tr s2)) eks_nil) fun vs H3 s3 hvs => ?_
  cases hvs with
  | cons g1 hvs =>
  cases hvs
  have x3 := x2.same s3
  have s13 : Same H H3 := (s1.tr s2).tr s3
  refine ⟨a, fx, n, ws, _, pg, rfl, x3, hn, g1, h1, h2, h3, h4, fun u H4 a4 st4 x4 hu4 => ⟨Nat.le_of_ble_eq_true rfl, fun tp htp => ?_⟩⟩
  have hv4 := KAt.keep st4.tup _ _ (hv1.mono s3)
  have s5 : Same H4 (upd H4 tp (.tup [v1, u])) := .up htp
  have x5 := x4.same s5
  obtain ⟨xs4, f1, f2⟩ := x5.marks
  have em := st4.fix.2.2.2.2.2.2.2.2.2.1
  have hb : ws.marks.length ≤ n := x.bnd.2.1
  have pm := put_marks fx.lost ws pg
  have hlen : xs4.length ≤ n := by
    have := f2.length
    rw [List.length_map, pm] at this
    omega
  refine ⟨a.marks, xs4, _, rfl, rfl, em ▸ f1, small (by omega), ?_⟩
  have m7 : a4.marks ∈ a4.fp := a4.mem.2.2.2.2.2.2.1
  rw [← em]
  have kp : Kp (upd H4 tp (.tup [v1, u])) (upd (upd H4 tp (.tup [v1, u])) a4.marks (.lst (xs4 ++ [.ref tp]))) a4.marks := fun b u hb e => by rw [upd_ne hb]; exact e
  have tl := x5.tupLe m7 kp
  have nf : wMarks (upd (upd H4 tp (.tup [v1, u])) a4.marks (.lst (xs4 ++ [.ref tp]))) a4 (ws.marks ++ [(pg, (ws.put fx.lost pg).2)]) := by
    refine ⟨_, upd_same, ?_⟩
    rw [List.map_append]
    rw [pm] at f2
    exact (KAll.keep tl _ _ f2).append (.cons (.tup (tl _ _ upd_same) (.cons (KAt.keep tl _ _ (hv4.mono s5)) (.cons (KAt.keep tl _ _ (hu4.mono s5)) .nil))) .nil)
  exact q _ a4 ((((Stp.same s13 a).trans st4).trans (.same s5 a4)).trans (x5.stp m7 kp)) (x5.wMarks kp nf (by rw [List.length_append, List.length_singleton]; omega))
end
section
variable {P : Program} {w : World} {K : PySem.W.Frag} {mg : Str → Option Value} {base : Heap} (T : Tp K mg)
include T
omit T in
theorem Stp.fxx {H H' : Hp} {a a' : WAd} (s : Stp H H' a a') : a'.x = a.x := s.fix.1
omit T in
theorem pgs_at {ps pre rest : List Pg} {p : Pg} (e : ps = pre ++ p :: rest) : atI (pgs ps) (pre.length : Int) = some p.key := by
  refine atI_nat ?_
  unfold pgs
  rw [List.getElem?_map, e, List.getElem?_append_right (Nat.le_refl _), Nat.sub_self]
  rfl
def spGoTo (P : Program) (w : World) (C : Addr) : Sp := fun vs H Q _ => ∃ (a : WAd) (bk : List Pg) (t : Int × Int) (last : Int), vs = [.ref a.x, .int last] ∧ W P w H C a ⟨bk, t, []⟩ 0 WS.start ∧ Bk bk ∧ 0 ≤ last ∧ last ≤ 90000 ∧ t.1 ≤ 1000 ∧ t.2 ≤ 1000 ∧
  ∀ H' a' n ls, Stp H H' a a' → W P w H' C a' ⟨bk, t, ls⟩ n (WS.goTo t bk last) → Q .non H'
theorem ok_go_to : Ok P w K mg base 6 ("Walk", some "go_to") ["self", "last"] (spGoTo P w (cW K)) := by
  have G1 := ok_page_day (P := P) (w := w) (base := base) T
  have G2 := ok_idle (P := P) (w := w) (base := base) T
  have G3 := ok_put (P := P) (w := w) (base := base) T
  have G4 := ok_fall (P := P) (w := w) (base := base) T
  refine ok_of T.f_Walk_go_to c_Walk_go_to (fun _ _ _ _ _ _ us hl => match us, hl with | [_, _], _ => rfl) (fun vs H Q E ⟨a, bk, t, last, e, _⟩ => by rw [e]; rfl) (fun cdv A outer s0 H vs Q E hr h => ?_)
  obtain ⟨a, bk, t, last, rfl, x, hbk, hl0, hl1, ht1, ht2, q⟩ := h
  have hu := hr.units
  have hr5 : Room 5 _ := hr
  have hr1 : Room 1 _ := hr.mono (by decide)
  refine ⟨_, pss_cons (ps_setLc (i := 3) (own := [("page", 2)]) (g := gName 2) (te := tVar 2) (tt := tTest (tOp (rI0 fun i j => .bl (decide (i ≤ j))) (tCall (spF fDay) [] E0 (tCons (tVar 2) tNil)) (tVar 1)))
      rfl c_Walk_go_to.nd rfl rfl (sw_true rfl rfl rfl rfl) (pi_tup (pe_fld (pv 0) rfl)) (blkOk_by (N := ["self", "last", "page", "pages", "at", "first", "day"]) (sc := defScope s_Walk_go_to) (by decide +kernel)) (fun _ _ _ _ _ => pg_name (i := 2) c_Walk_go_to.nd rfl (.inl rfl))
      (fun _ _ _ _ _ => pts_one (pt_cmpR op_le (pe_fn G1 hr1 (by rfl) T.g_page_day (pa_cons (pv 2) pa_nil)) (pv 1) (nomark _))) (fun _ _ _ _ _ => pv 2))
    (pss_cons (ps_for .never rfl (pi_list (pe_fn G2 hr5 (by rfl) T.g_idle (pa_cons (pe_fld (pv 0) rfl) (pa_cons (pv 1) pa_nil)))) (pg_name (i := 2) c_Walk_go_to.nd rfl (.inl rfl)) (pss_one (ps_nput hu (pe_fld (pv 0) rfl) (pv 2) pe_bl rfl)))
    (pss_cons (ps_set (i := 4) c_Walk_go_to.nd rfl (.inl rfl) pe_int)
    (pss_cons (ps_set (i := 5) c_Walk_go_to.nd rfl (.inl rfl) (pe_ifExp (pt_cmpR (op_neNil hu) (pv 3) (pe_lst pa_nil) (nomark _)) (pe_fn G1 hr1 (by rfl) T.g_page_day (pa_cons (pe_ix ix_list (pv 3) pe_int (fun _ _ => rfl)) pa_nil)) (pe_op op_add (pv 1) pe_int)))
    (pss_one (ps_for .never rfl (pi_range2 (by rfl) T.b_range (pa_cons (pv 5) (pa_cons (pe_op op_add (pv 1) pe_int) pa_nil))) (pg_name (i := 6) c_Walk_go_to.nd rfl (.inl rfl))
      (pss_cons (ps_while .never (pw_and (pt_cmpR op_lt (pv 4) (pe_callB call_len_seq (by rfl) T.b_len PySem.boot_len (pa_cons (pv 3) pa_nil)) (nomark _)) (pw_and1 (pt_cmpR op_eq (pe_fn G1 hr1 (by rfl) T.g_page_day (pa_cons (pe_ix ix_list (pv 3) (pv 4) (fun _ _ => rfl)) pa_nil)) (pv 6) (nomark _)))).pt
        (pss_cons (ps_expr (pe_bm PySem.F.plainAttrs_list PySem.F.slot_list_append PySem.F.type_list_append mt_append (pe_fld (pv 0) rfl) (pa_cons (pe_tup (pa_cons (pe_ix ix_list (pv 3) (pv 4) (fun _ _ => rfl)) (pa_cons (pe_mt G3 (hr.mono (by decide)) (pv 0) T.cl_Walk T.m_Walk_put (pa_cons (pe_ix ix_list (pv 3) (pv 4) (fun _ _ => rfl)) pa_nil)) pa_nil))) pa_nil)))
        (pss_one (ps_set (i := 4) c_Walk_go_to.nd rfl (.inl rfl) (pe_op op_add (pv 4) pe_int)))))
      (pss_one (ps_expr (pe_mt G4 (hr.mono (by decide)) (pv 0) T.cl_Walk T.m_Walk_fall (pa_cons (pv 6) pa_nil)))))))))), ?_⟩
  obtain ⟨ba, bxs, hbe, hb1, hb2⟩ := x.book.tupRef
  cases hbe
  generalize hpages : bk.filter (fun p => decide (p.day ≤ last)) = pages
  have bpg : Bk pages := hpages ▸ hbk.filter _
  refine s_asgLK (ks := pgs pages) ?_ fun pg pxs H1 hpn s1 hp1 hk1 => ?_
  · rw [← hpages, ← pgs_filter, ← List.map_id ((pgs bk).filter _)]
    refine el_lc (v := fun k => k) (src_tup (ek_of (x.e1 T (Evl.ev_var rfl)) x.book)) (by unfold pgs; rw [List.length_map]; have := hbk.len; omega) fun k hk H1 y s1 hy => ?_
    obtain ⟨p, hp, rfl⟩ := mem_pgs hk
    refine turn_name hy rfl ?_ fun _ => ek_var rfl hy
    rw [ofKey_key]
    exact et_T (eb_leI (EvK.num (ek_call (eks_cons (ek_var rfl hy) eks_nil) ⟨p, rfl, rfl⟩)) (Evl.ev_var rfl))
  have x1 := x.same s1
  have pf : pg ∉ a.fp := x.new hpn
  have lp : pxs.length = pages.length := by rw [hk1.length]; unfold pgs; rw [List.length_map]
  -- the pages that are idle
  have eid : EvLK (tCall (spL fIdle) [] E0 (tCons (tFld K (tVar 0) "own_pages") (tCons (tVar 1) tNil))) [some (.ref a.x), some (.int last), none, some (.ref pg), none, none, none] H1 (pgs (idleOf pages)) :=
    el_call (eks_cons (ek_of (x1.e1 T (Evl.ev_var rfl)) x1.book) (eks_cons (ek_num (Evl.ev_var rfl)) eks_nil)) ⟨bk, last, hbk.len, rfl, by rw [hpages]⟩
  refine eid H1 (.rf _) _ fun ip ixs H2 hip s2 hi2 hk2 => ?_
  have x2 := x1.same s2
  have ipf : ip ∉ a.fp := x1.new hip
  have li : ixs.length = (idleOf pages).length := by rw [hk2.length]; unfold pgs; rw [List.length_map]
  have lidle : (idleOf pages).length ≤ 1000 := by
    have h1 : ∀ (ps : List Pg) (s : HS), (ps.foldl HS.meet s).idle.length ≤ s.idle.length + ps.length := by
      intro ps
      induction ps with
      | nil => exact fun s => Nat.le_refl _
      | cons p ps ih =>
        intro s
        rw [List.foldl_cons, List.length_cons]
        have h2 := ih (s.meet p)
        have h3 := congrArg List.length (HS.idle_meet s p)
        rw [List.length_append] at h3
        have h4 : (if s.can p = true then ([] : List Pg) else [p]).length ≤ 1 := by split <;> simp
        omega
    have h5 := h1 pages HS.start
    have h6 : HS.start.idle.length = 0 := rfl
    have := bpg.len
    unfold idleOf
    omega
  refine ⟨ip, rfl, ⟨ixs, .of hi2⟩, for_list (K := K) (a := ip) (xs := ixs) (fun i σ' H' => (σ'.length = 7 ∧ σ'[0]? = some (some (.ref a.x)) ∧ σ'[1]? = some (some (.int last)) ∧ σ'[3]? = some (some (.ref pg))) ∧ H' ip = some (.lst ixs) ∧ Stp H2 H' a a ∧ W P w H' (cW K) a ⟨bk, t, (idleOf pages).take i⟩ 0 WS.start)
    ⟨⟨rfl, rfl, rfl, rfl⟩, hi2, .same (.rf _) a, x2⟩ (fun i σ' H' _ h => .of h.2.1) ?_ ?_⟩
  · rintro i v σ' H3 hi ⟨⟨sh0, sh1, sh2, sh3⟩, hi3, st3, x3⟩
    obtain ⟨k, hk', hv⟩ := hk2.getV hi
    unfold pgs at hk'
    rw [List.getElem?_map] at hk'
    obtain ⟨d, hd, rfl⟩ := Option.map_eq_some_iff.mp hk'
    have ht : (idleOf pages).take (i + 1) = (idleOf pages).take i ++ [d] := by rw [List.take_add_one, hd]; simp
    obtain ⟨σ0, σ1, σ2, σ3, σ4, σ5, σ6, rfl⟩ : ∃ a b c d e f g, σ' = [a, b, c, d, e, f, g] := by
      match σ', sh0 with
      | [a, b, c, d, e, f, g], _ => exact ⟨a, b, c, d, e, f, g, rfl⟩
    cases sh1
    cases sh2
    cases sh3
    refine s_lput x3 (x3.e3 T (Evl.ev_var rfl)) (ek_var rfl (KAt.keep st3.tup _ _ hv)) (by rw [List.length_take]; omega) fun H4 st4 x4 => ?_
    refine ⟨⟨rfl, rfl, rfl, rfl⟩, st4.keep ip _ hi3 ipf, st3.trans st4, ?_⟩
    rw [ht]
    exact x4
  rintro σ' H3 ⟨⟨sh0, sh1, sh2, sh3⟩, hi3, st3, x3⟩
  rw [li, List.take_length] at x3
  obtain ⟨σ0, σ1, σ2, σ3, σ4, σ5, σ6, rfl⟩ : ∃ a b c d e f g, σ' = [a, b, c, d, e, f, g] := by
    match σ', sh0 with
    | [a, b, c, d, e, f, g], _ => exact ⟨a, b, c, d, e, f, g, rfl⟩
  cases sh1
  cases sh2
  cases sh3
  have st03 : Stp H H3 a a := (Stp.same (s1.tr s2) a).trans st3
  have hp3 : H3 pg = some (.lst pxs) := st3.keep pg _ (s2 _ _ hp1) pf
  have hk3 : KAll H3 pxs (pgs pages) := KAll.keep st3.tup _ _ (hk1.mono s2)
  generalize hlost : idleOf pages = lost at x3
  obtain ⟨first, hf0, hf1⟩ : ∃ first : Int, (pages = [] → first = last + 1) ∧ ∀ p r, pages = p :: r → first = p.day := by
    cases pages with
    | nil => exact ⟨last + 1, fun _ => rfl, fun p r h => (nomatch h)⟩
    | cons p r => exact ⟨p.day, fun h => (nomatch h), fun p' r' h => by cases h; rfl⟩
  have hfb : 0 ≤ first ∧ first ≤ 100000 := by
    cases pages with
    | nil => rw [hf0 rfl]; omega
    | cons p r => rw [hf1 p r rfl]; have := bpg.days p List.mem_cons_self; omega
  dsimp only
  refine Evl.s_asg Evl.ev_c fun H4 s4 => ?_
  have hp4 := s4 _ _ hp3
  refine s_asgK (k := .num first) (ek_if (b := !pxs.isEmpty) (et_T (eb_nnil (Evl.ev_var rfl) (.of hp4))) (fun hb => ?_) (fun hb => ?_)) fun fv H5 s5 hfv => ?_
  · cases pages with
    | nil =>
      rw [List.length_eq_zero_iff.mp lp] at hb
      cases hb
    | cons p r =>
      rw [hf1 p r rfl]
      exact ek_call (eks_cons (ek_lix (Evl.ev_var rfl) (.of hp4) (hk3.mono s4) Evl.ev_c (pgs_at (pre := []) rfl)) eks_nil) ⟨p, rfl, rfl⟩
  · have hnil : pages = [] := by
      cases pages with
      | nil => rfl
      | cons p r =>
        cases pxs with
        | nil => cases lp
        | cons _ _ => cases hb
    rw [hf0 hnil]
    exact ek_num (Evl.ev_op (Evl.ev_var rfl) Evl.ev_c Evl.rv_I0)
  cases hfv
  have s35 : Same H3 H5 := s4.tr s5
  have hun : ∀ p ∈ pages, p.unlike := bpg.unl
  refine Evl.s_forR2 (lo := first) (n := last + 1) (Evl.ea_cons (Evl.ev_var rfl) (Evl.ea_cons (Evl.ev_op (Evl.ev_var rfl) Evl.ev_c Evl.rv_I0) Evl.ea_nil)) ⟨hfb.1, hfb.2, by omega, by omega⟩
    (fun i σ' H' => ∃ (a' : WAd) (ws : WS) (rest pre : List Pg) (v2 v6 : Option V), σ' = [some (.ref a.x), some (.int last), v2, some (.ref pg), some (.int (pre.length : Int)), some (.int first), v6] ∧ pages = pre ++ rest ∧ MI pre (pre.foldl HS.meet HS.start) ws ∧ ws.falls.length ≤ capN pre ∧
      Stp H5 H' a a' ∧ W P w H' (cW K) a' ⟨bk, t, lost⟩ pre.length ws ∧ H' pg = some (.lst pxs) ∧ KAll H' pxs (pgs pages) ∧ WS.run t lost first i (WS.start, pages) = (ws, rest))
    (fun H6 s6 => ⟨a, WS.start, pages, [], σ2, σ6, rfl, rfl, MI.start, Nat.zero_le _, .same s6 a, x3.same (s35.tr s6), (s35.tr s6) _ _ hp3, hk3.mono (s35.tr s6), rfl⟩) ?_ ?_
  · rintro i σ' H6 hi ⟨a', ws, rest, pre, v2, v6, rfl, hpr, mi, hcap, st6, x6, hp6, hk6, hrun⟩
    generalize hday : first + (i : Int) = day
    have fin : ∀ {H7 : Hp} {a2 : WAd} {ws2 : WS} {rest2 pre2 : List Pg} {v2' : Option V}, pages = pre2 ++ rest2 → MI pre2 (pre2.foldl HS.meet HS.start) ws2 → ws2.falls.length ≤ capN pre2 → Stp H5 H7 a a2 → W P w H7 (cW K) a2 ⟨bk, t, lost⟩ pre2.length ws2 → H7 pg = some (.lst pxs) → KAll H7 pxs (pgs pages) →
        WS.eat lost day rest ws = (ws2, rest2) → ∀ D : Ends, D.nx = (fun σ' H' => ∃ (a' : WAd) (ws : WS) (rest pre : List Pg) (v2 v6 : Option V), σ' = [some (.ref a.x), some (.int last), v2, some (.ref pg), some (.int (pre.length : Int)), some (.int first), v6] ∧ pages = pre ++ rest ∧ MI pre (pre.foldl HS.meet HS.start) ws ∧ ws.falls.length ≤ capN pre ∧
      Stp H5 H' a a' ∧ W P w H' (cW K) a' ⟨bk, t, lost⟩ pre.length ws ∧ H' pg = some (.lst pxs) ∧ KAll H' pxs (pgs pages) ∧ WS.run t lost first (i + 1) (WS.start, pages) = (ws, rest)) →
        tDrop (tMeth (cW K) "fall" (spFall P w (cW K)) [] E0 (tVar 0) (tCons (tVar 6) tNil)) D [some (.ref a.x), some (.int last), v2', some (.ref pg), some (.int (pre2.length : Int)), some (.int first), some (.int day)] H7 := by
      intro H7 a2 ws2 rest2 pre2 v2' e1 mi2 cap2 st2 x2 hp2 hk2 eeat D hD
      have hcap2 : capN pre2 ≤ 2000 := Nat.le_trans (capN_pre pre2 rest2) (e1 ▸ bpg.cap)
      refine me_V (a := a2.x) (Evl.ev_var (by rw [st2.fxx]; rfl)) x2.ins (a2.m8 _ _ _ _) (Evl.ea_cons (Evl.ev_var rfl) Evl.ea_nil) fun H8 s8 => ⟨a2, ⟨bk, t, lost⟩, _, ws2, day, rfl, x2.same s8, by omega, fun d hd => mi2.sorts _ (mi2.page d hd), ht1, ht2, fun H9 st9 x9 => ?_⟩
      have pf2 : pg ∉ a2.fp := fun hb => by
        obtain ⟨o, e, z⟩ : ∃ o, H5 pg = some o ∧ True := ⟨_, s35 _ _ hp3, trivial⟩
        rcases st2.fp pg hb with h | h
        · exact pf h
        · rw [e] at h; cases h
      show D.nx _ _
      rw [hD]
      refine ⟨a2, ws2.fall t day, rest2, pre2, v2', some (.int day), rfl, e1, mi2.fall t day, by rw [fall_len]; exact cap2, (st2.trans (.same s8 a2)).trans st9, x9, st9.keep pg _ (s8 _ _ hp2) pf2, KAll.keep st9.tup _ _ (hk2.mono s8), ?_⟩
      rw [run_snoc, hrun, hday]
      show ((WS.eat lost day rest ws).1.fall t day, (WS.eat lost day rest ws).2) = _
      rw [eeat]
    refine ⟨fun m σ' H' => ∃ (a2 : WAd) (ws2 : WS) (rest2 pre2 : List Pg) (v2' : Option V), σ' = [some (.ref a.x), some (.int last), v2', some (.ref pg), some (.int (pre2.length : Int)), some (.int first), some (.int day)] ∧ m = rest2.length ∧ pages = pre2 ++ rest2 ∧ MI pre2 (pre2.foldl HS.meet HS.start) ws2 ∧ ws2.falls.length ≤ capN pre2 ∧
      Stp H5 H' a a2 ∧ W P w H' (cW K) a2 ⟨bk, t, lost⟩ pre2.length ws2 ∧ H' pg = some (.lst pxs) ∧ KAll H' pxs (pgs pages) ∧ WS.eat lost day rest ws = WS.eat lost day rest2 ws2, ⟨rest.length, a', ws, rest, pre, v2, rfl, rfl, hpr, mi, hcap, st6, x6, hp6, hk6, rfl⟩, ?_⟩
    rintro m σ' H7 ⟨a2, ws2, rest2, pre2, v2', rfl, rfl, e1, mi2, cap2, st2, x2, hp2, hk2, eeat⟩
    have l12 : pxs.length = pre2.length + rest2.length := by rw [lp, e1, List.length_append]
    cases rest2 with
    | nil =>
      refine (Evl.et_and (a := false) (b := false) (et_T (Evl.ev_is (eb_ltI (Evl.ev_var rfl) (ev_lenAt (Evl.ev_var rfl) (.of hp2))) (congrArg V.bl (decide_eq_false (by rw [l12]; simp))))) (fun h => nomatch h)) H7 (Evl.Ex.refl _) _ fun H8 s8 => ?_
      rw [if_neg (show ¬ (false && false) = true from Bool.false_ne_true)]
      exact fin e1 mi2 cap2 (st2.trans (.same s8 a2)) (x2.same s8) (s8 _ _ hp2) (hk2.mono s8) eeat _ rfl
    | cons p r =>
      have hlt : decide ((pre2.length : Int) < (pxs.length : Int)) = true := decide_eq_true (by rw [l12, List.length_cons]; omega)
      refine (Evl.et_and (a := true) (b := decide (p.day = day)) (et_T (Evl.ev_is (eb_ltI (Evl.ev_var rfl) (ev_lenAt (Evl.ev_var rfl) (.of hp2))) (congrArg V.bl hlt))) (fun _ => et_T (eb_eqI (EvK.num (ek_call (eks_cons (ek_lix (Evl.ev_var rfl) (.of hp2) hk2 (Evl.ev_var rfl) (pgs_at e1)) eks_nil) ⟨p, rfl, rfl⟩)) (Evl.ev_var rfl)))) H7 (Evl.Ex.refl _) _ fun H8 s8 => ?_
      rw [Bool.true_and]
      have x8 := x2.same s8
      have hp8 := s8 _ _ hp2
      have hk8 := hk2.mono s8
      have st8 := st2.trans (.same s8 a2)
      by_cases hd : p.day = day
      · rw [if_pos (decide_eq_true hd)]
        rw [eat_cons lost day p r ws2 hd] at eeat
        refine ⟨fun σ' H' => ∃ m', m' < r.length + 1 ∧ _, fun σ' H' h => h, ?_⟩
        have hnp : p ∉ pre2 := by
          have hn := bpg.nodup
          rw [e1] at hn
          exact fun z => (List.nodup_append.mp hn).2.2 p z p List.mem_cons_self rfl
        have hl2 : p ∈ lost ↔ (pre2.foldl HS.meet HS.start).can p = false := by
          rw [← hlost, e1]; exact lost_iff (by rw [← e1]; exact bpg.nodup)
        have hup := hun p (by rw [e1]; exact List.mem_append_right _ List.mem_cons_self)
        have hcap2 : capN pre2 ≤ 2000 := Nat.le_trans (capN_pre pre2 (p :: r)) (e1 ▸ bpg.cap)
        have m9 := mi2.mark hnp hl2 hup
        have c9 := mark_len mi2 hl2 hup cap2
        have ef : (pre2 ++ [p]).foldl HS.meet HS.start = (pre2.foldl HS.meet HS.start).meet p := by rw [List.foldl_append]; rfl
        have pl : pre2.length + 1 ≤ 900 := by
          have := bpg.len
          rw [e1, List.length_append, List.length_cons] at this; omega
        have pf2 : pg ∉ a2.fp := fun hb => by
          rcases st8.fp pg hb with h | h
          · exact pf h
          · rw [s35 _ _ hp3] at h; cases h
        refine s_mark (a := a2) T x8 (x8.e8 T (Evl.ev_var (by rw [st8.fxx]; rfl))) (by rw [st8.fxx]; rfl) (pg := p) (ek_lix (Evl.ev_var rfl) (.of hp8) hk8 (Evl.ev_var rfl) (pgs_at e1)) (by omega) (fun hnl hg => ?_) (fun d hd => mi2.sorts _ (mi2.page d hd)) mi2.nodup (by omega) fun H9 a9 st9 x9 => ?_
        · have hc : (pre2.foldl HS.meet HS.start).can p = true := by
            cases z : (pre2.foldl HS.meet HS.start).can p with
            | true => rfl
            | false => exact absurd (hl2.mpr z) hnl
          have : p.snd ∈ (pre2.foldl HS.meet HS.start).stands := by
            cases p <;> first
              | (cases hg; done)
              | (have hc' := hc; simp only [HS.can, Bool.and_eq_true, decide_eq_true_eq] at hc'; exact hc'.2)
          exact mi2.homes _ this
        · refine Evl.s_asg (Evl.ev_op (Evl.ev_var rfl) Evl.ev_c Evl.rv_I0) fun H10 s10 => ?_
          refine ⟨r.length, Nat.lt_succ_self _, a9, ws2.mark lost p, r, pre2 ++ [p], v2', ?_, rfl, by rw [e1, List.append_assoc]; rfl, ef ▸ m9, c9, (st8.trans st9).trans (.same s10 a9), ?_, s10 _ _ (st9.keep pg _ hp8 pf2), (KAll.keep st9.tup _ _ hk8).mono s10, eeat⟩
          · rw [List.length_append, List.length_singleton]; rfl
          · rw [List.length_append, List.length_singleton]; exact x9.same s10
      · rw [if_neg (by simpa using hd)]
        rw [eat_stop lost day p r ws2 hd] at eeat
        exact fin e1 mi2 cap2 st8 x8 hp8 hk8 eeat _ rfl
  · rintro σ' H6 ⟨a', ws, rest, pre, v2, v6, rfl, hpr, mi, hcap, st6, x6, hp6, hk6, hrun⟩
    have eg : WS.goTo t bk last = ws := by
      unfold WS.goTo
      rw [hpages]
      cases pages with
      | nil =>
        rw [hf0 rfl] at hrun
        have e0 : (last + 1 - (last + 1)).toNat = 0 := by omega
        rw [e0] at hrun
        exact (Prod.mk.inj hrun).1
      | cons p r =>
        rw [hf1 p r rfl] at hrun
        show (WS.run t (idleOf (p :: r)) p.day (last + 1 - p.day).toNat (WS.start, p :: r)).1 = ws
        rw [hlost, hrun]
    exact q H6 a' pre.length lost ((st03.trans (.same s35 a)).trans st6) (by rw [eg]; exact x6)
end
end CB
/-! CBO1 -/
set_option Elab.async false
set_option autoImplicit false
set_option linter.all false
set_option maxRecDepth 100000
set_option maxHeartbeats 2000000
/-! Walk.places. -/
namespace CB
open PySem PySem.Spec PyProof.Rows L2
open Evl (Ev EvT EvA EvO)
section
variable {K : PySem.W.Frag} {σ : L2.St} {H : Hp} {tl te : TE} {g : TG} {vs : List Nat} {a : Addr} {xs : List V}
/-- [e for i, x in enumerate(t)] -/
theorem lc_enum {R : Nat → Hp → V → Prop} (mono : ∀ i H H' v, TupLe H H' → R i H v → R i H' v) (h : Ev tl σ H (.ref a)) (hs : SqT K H a xs) (hl : xs.length ≤ 40000)
    (turn : ∀ i x H1 T, xs[i]? = some x → Same H H1 → H1 T = some (.tup [.int (i : Nat), x]) → ∀ Q : L2.St → Hp → Prop, (∀ σ2 H2, Same H1 H2 → wipe σ2 vs = wipe σ vs → EvI te σ2 H2 (R i) → Q σ2 H2) → g (.ref T) (wipe σ vs) H1 Q)
    (Q : VK) (q : ∀ p ys H2, H p = none → Same H H2 → H2 p = some (.lst ys) → Paired (fun y i => R i H2 y) ys (List.range xs.length) → Q (.ref p) H2) : tLc (iEnumT K (tCons tl tNil)) g tYes te vs σ H Q := by
  refine h H (Evl.Ex.refl _) _ fun H1 s1 => ⟨a, xs, rfl, sqT_same s1 hs, ?_⟩
  intro D hD
  have upW : ∀ {Ha Hb : Hp} {ys : List V} {L : List Nat}, Same Ha Hb → Paired (fun y i => R i Ha y) ys L → Paired (fun y i => R i Hb y) ys L := fun s h => Paired.mapP h fun a b r => mono b _ _ a (.of_same s) r
  refine ⟨fun i m H' => m = xs.length - i ∧ i ≤ xs.length ∧ ∃ acc, Same H1 H' ∧ H' D = some (.lst acc) ∧ Paired (fun y i => R i H' y) acc (List.range i), ⟨xs.length, by simp, Nat.zero_le _, [], .up hD, upd_same, .nil⟩, ?_⟩
  rintro i m H' ⟨rfl, hi, acc, s', hD', hp⟩
  have sH : SqT K H' a xs := sqT_same (s1.tr s') hs
  rcases Nat.lt_or_ge i xs.length with lt | ge
  · have la : acc.length = i := by rw [Paired.length hp, List.length_range]
    refine .inr ⟨⟨sH, lt⟩, fun H3 => i + 1 ≤ xs.length ∧ ∃ acc, Same H1 H3 ∧ H3 D = some (.lst acc) ∧ Paired (fun y i => R i H3 y) acc (List.range (i + 1)), fun H3 ⟨a1, a2⟩ => ⟨_, by omega, rfl, a1, a2⟩, fun x H3 y => ?_⟩
    obtain ⟨T, x', rfl, hT, rfl, hx⟩ := y
    have s3 : Same H' (upd H' T (.tup [.int (i : Nat), x'])) := .up hT
    refine turn i x' _ T hx (s1.tr (s'.tr s3)) upd_same _ fun σ2 H4 s4 hw he => ⟨hw, ?_⟩
    unfold tYes
    dsimp only
    rw [if_pos rfl]
    refine he H4 (.rf _) _ fun v H6 s6 hv => ?_
    have s36 : Same H' H6 := s3.tr (s4.tr s6)
    refine ⟨acc, s36 _ _ hD', Nat.lt_of_le_of_lt (by omega : acc.length ≤ 40000) (by decide), lt, acc ++ [v], (s'.tr s36).up2 hD, upd_same, ?_⟩
    rw [List.range_succ]
    have tl : TupLe H6 (upd H6 D (.lst (acc ++ [v]))) := fun b ys e => by
      rw [upd_ne (ne_of e (s36 _ _ hD') (by intro z; cases z))]; exact e
    exact Paired.snoc (Paired.mapP (upW s36 hp) fun a b r => mono b _ _ a tl r) (mono i _ _ v tl hv)
  · obtain rfl : i = xs.length := by omega
    exact .inl ⟨⟨sH, rfl⟩, q D acc H' (Same.no s1 hD) (s1.tr s') hD' hp⟩
end
theorem s_retCB1 {te : TE} {r : List V → Hp → VK → Prop} {D : Ends} {σ : L2.St} {H : Hp} (h : te σ H fun v H1 => r [v] H1 D.rt) : tRet (tCB r (tCons te tNil)) D σ H := h
theorem valV_fold_not {kvs : List (NestedKey × V)} {k : NestedKey} : ∀ acc, k ∉ kvs.map (·.1) → valV (kvs.foldl (fun acc kv => putK acc kv.1 kv.2) acc) k = valV acc k := by
  induction kvs with
  | nil => exact fun _ _ => rfl
  | cons p kvs ih =>
    intro acc h
    rw [List.map_cons, List.mem_cons, not_or] at h
    rw [List.foldl_cons, ih _ h.2, valV_put, if_neg h.1]
theorem valV_fold {kvs : List (NestedKey × V)} {k : NestedKey} {v : V} : ∀ acc, (kvs.map (·.1)).Nodup → (k, v) ∈ kvs → valV (kvs.foldl (fun acc kv => putK acc kv.1 kv.2) acc) k = some v := by
  induction kvs with
  | nil => exact fun _ _ h => (nomatch h)
  | cons p kvs ih =>
    intro acc hn hm
    rw [List.map_cons, List.nodup_cons] at hn
    rw [List.foldl_cons]
    rcases List.mem_cons.mp hm with e | hm
    · subst e
      rw [valV_fold_not _ hn.1, valV_put, if_pos rfl]
    · exact ih _ hn.2 hm
def atKv (bk : List Pg) (i : Nat) : NestedKey × V := ((bk[i]?.map Pg.key).getD .none, .int (i : Nat))
theorem atKv_keys (bk : List Pg) : ((List.range bk.length).map (atKv bk)).map (·.1) = pgs bk := by
  rw [List.map_map]
  unfold pgs
  refine List.ext_getElem? fun j => ?_
  rw [List.getElem?_map, List.getElem?_map]
  by_cases h : j < bk.length
  · rw [List.getElem?_range h, List.getElem?_eq_getElem h]
    show some ((bk[j]?.map Pg.key).getD .none) = _
    rw [List.getElem?_eq_getElem h]
    rfl
  · rw [List.getElem?_eq_none (by rw [List.length_range]; omega), List.getElem?_eq_none (by omega)]
    rfl
theorem pgs_nodup {bk : List Pg} (h : bk.Nodup) : (pgs bk).Nodup := by
  unfold pgs
  exact h.map Pg.key (fun a b e z => e (Pg.key_inj z))
def plR (bk : List Pg) (i : Nat) (H : Hp) (v : V) : Prop := ∃ p b pg, v = .ref p ∧ H p = some (.tup [.ref b, .int (i : Nat)]) ∧ bk[i]? = some pg ∧ KAt H (.ref b) pg.key
theorem plR_pairs {bk : List Pg} {H : Hp} : ∀ {ys : List V} {L : List Nat}, Paired (fun y i => plR bk i H y) ys L → ∃ ps : List Addr, ys = ps.map V.ref ∧ Paired (fun p kv => ∃ b, H p = some (.tup [.ref b, kv.2]) ∧ KAt H (.ref b) kv.1 ∧ kv.1.depth ≤ 8) ps (L.map (atKv bk))
  | _, _, .nil => ⟨[], rfl, .nil⟩
  | _, _, .cons (b := i) h t => by
    obtain ⟨ps, rfl, h2⟩ := plR_pairs t
    obtain ⟨p, b, pg, rfl, h3, h4, h5⟩ := h
    refine ⟨p :: ps, rfl, .cons ⟨b, h3, ?_, ?_⟩ h2⟩
    · show KAt H (.ref b) ((bk[i]?.map Pg.key).getD .none)
      rw [h4]; exact h5
    · show ((bk[i]?.map Pg.key).getD NestedKey.none).depth ≤ 8
      rw [h4]; exact pg_depth8 pg
section
variable {P : Program} {w : World} {K : PySem.W.Frag} {mg : Str → Option Value} {base : Heap} (T : Tp K mg)
include T
/-- a dict of the places of these pages -/
def Plc (P : Program) (w : World) (H : Hp) (d : Addr) (bk : List Pg) : Prop := ∃ kvs, DN P w H d kvs ∧ ∀ (i : Nat) (p : Pg), bk[i]? = some p → valV kvs p.key = some (.int (i : Nat))
def spPlaces (P : Program) (w : World) (C : Addr) : Sp := fun vs H Q _ => ∃ a fx n ws, vs = [.ref a.x] ∧ W P w H C a fx n ws ∧ fx.bk.Nodup ∧ fx.bk.length ≤ 900 ∧ ∀ d H', H d = none → Same H H' → Plc P w H' d fx.bk → Q (.ref d) H'
theorem ok_places : Ok P w K mg base 1 ("Walk", some "places") ["self"] (spPlaces P w (cW K)) := by
  refine ok_of T.f_Walk_places c_Walk_places (fun _ _ _ _ _ _ us hl => match us, hl with | [_], _ => rfl) (fun vs H Q E ⟨a, fx, n, ws, e, _⟩ => by rw [e]; rfl) (fun cdv A outer s0 H vs Q E hr h => ?_)
  obtain ⟨a, fx, n, ws, rfl, x, hn, hl, q⟩ := h
  have hu := hr.units
  refine ⟨_, pss_one (ps_ret (pe_callTy (call_dictN rfl hu) (by rfl) T.b_dict PyProof.Rows.boot_dict (pa_cons (pe_lc (own := [("k", 1), ("page", 2)]) (g := gTup K 2 (gCons (gName 1) (gCons (gName 2) gNil))) (te := tTup (tCons (tVar 2) (tCons (tVar 1) tNil)))
      rfl c_Walk_places.nd (pi_enumT (by rfl) T.b_enumerate (pa_cons (pe_fld (pv 0) rfl) pa_nil)) (blkOk_by (N := ["self", "k", "page"]) (sc := defScope s_Walk_places) (by decide +kernel)) (fun _ _ _ _ _ => pg_tup rfl (pgs_cons (pg_name (i := 1) c_Walk_places.nd rfl (.inl rfl)) (pgs_cons (pg_name (i := 2) c_Walk_places.nd rfl (.inl rfl)) pgs_nil)))
      (fun _ _ _ _ _ => pts_nil) (fun _ _ _ _ _ => pe_tup (pa_cons (pv 2) (pa_cons (pv 1) pa_nil)))) pa_nil))), ?_⟩
  obtain ⟨ba, bxs, hbe, hb1, hb2⟩ := x.book.tupRef
  cases hbe
  have lb : bxs.length = fx.bk.length := by rw [hb2.length]; unfold pgs; rw [List.length_map]
  refine s_retCB1 ?_
  refine lc_enum (K := K) (a := a.book) (xs := bxs) (R := plR fx.bk) (fun i H H' v t ⟨p, b, pg, e1, e2, e3, e4⟩ => ⟨p, b, pg, e1, t _ _ e2, e3, KAt.keep t _ _ e4⟩) (x.e1 T (Evl.ev_var rfl)) (.of hb1) (by omega) (fun i y H1 T' hy s1 hT Q1 q1 => ?_) _ fun p ys H2 hp s2 hp2 hpr => ?_
  · refine ⟨T', _, rfl, .of hT, rfl, _, _, rfl, _, _, rfl, rfl, q1 _ H1 (.rf _) rfl ?_⟩
    obtain ⟨k, hk, hyk⟩ := hb2.getV hy
    unfold pgs at hk
    rw [List.getElem?_map] at hk
    obtain ⟨pg, hpg, rfl⟩ := Option.map_eq_some_iff.mp hk
    obtain ⟨b, txs, rfl, h1, h2⟩ := hyk.tupRef
    intro H3 s3 Q2 q2
    refine (Evl.ea_cons (Evl.ev_var rfl) (Evl.ea_cons (Evl.ev_var rfl) Evl.ea_nil)) H3 s3 _ fun H4 s4 => ⟨Nat.le_of_ble_eq_true rfl, fun tp htp => ?_⟩
    exact q2 _ _ (s4.tr (.up htp)) ⟨tp, b, pg, rfl, upd_same, hpg, hyk.mono (((s1.tr s3).tr s4).tr (.up htp))⟩
  · rw [lb] at hpr
    obtain ⟨ps, rfl, hps⟩ := plR_pairs hpr
    refine ⟨p, ps, (List.range fx.bk.length).map (atKv fx.bk), rfl, .of hp2, hps, fun d H3 hd hk hdn => q d H3 (s2.no hd) (s2.tr fun b u e => by rw [hk b (ne_of_none e hd)]; exact e) ⟨_, hdn, fun i pg hi => ?_⟩⟩
    have hi' := (List.getElem?_eq_some_iff.mp hi).1
    refine valV_fold [] (by rw [atKv_keys]; exact pgs_nodup hn) (List.mem_map.mpr ⟨i, List.mem_range.mpr hi', ?_⟩)
    show ((fx.bk[i]?.map Pg.key).getD .none, V.int (i : Nat)) = _
    rw [hi]; rfl
end
end CB
/-! CBO2 -/
set_option Elab.async false
set_option autoImplicit false
set_option linter.all false
set_option maxRecDepth 100000
set_option maxHeartbeats 2000000
/-! walked, marks, sums. -/
namespace CB
open PySem PySem.Spec PyProof.Rows L2
open Evl (Ev EvT EvA EvO)
structure WOk (bk : List Pg) (t : Int × Int) (day : Int) : Prop where
  bk : Bk bk
  day : 0 ≤ day ∧ day ≤ 90000
  t1 : t.1 ≤ 1000
  t2 : t.2 ≤ 1000
def argK (bk : List Pg) (t : Int × Int) (day : Int) : List NestedKey := [.tup (pgs bk), .tup [.num t.1, .num t.2], .num day]
theorem WAd.newA {H : Hp} {a : WAd} : (∀ b ∈ a.fp, H b = none) → ∀ {b o}, H b = some o → b ∉ a.fp := fun h {b o} e hb => by rw [h b hb] at e; cases e
section
variable {P : Program} {w : World} {K : PySem.W.Frag} {mg : Str → Option Value} {base : Heap} (T : Tp K mg)
include T
def spWalked (P : Program) (w : World) (C : Addr) : Sp := fun vs H Q _ => ∃ bk t day, KAll H vs (argK bk t day) ∧ WOk bk t day ∧ ∀ a H' n ls, Same H H' → W P w H' C a ⟨bk, t, ls⟩ n (WS.goTo t bk day) → (∀ b ∈ a.fp, H b = none) → Q (.ref a.x) H'
theorem ok_walked : Ok P w K mg base 7 ("walked", none) ["book", "terms", "day"] (spWalked P w (cW K)) := by
  have G1 := ok_winit (P := P) (w := w) (base := base) T
  have G2 := ok_go_to (P := P) (w := w) (base := base) T
  refine ok_of T.f_walked c_walked (fun _ _ _ _ _ _ us hl => match us, hl with | [_, _, _], _ => rfl) (fun vs H Q E ⟨bk, t, day, e, _⟩ => by rw [e.length]; rfl) (fun cdv A outer s H vs Q E hr h => ?_)
  obtain ⟨bk, t, day, hs, ok, q⟩ := h
  have hr6 : Room 6 _ := hr
  cases hs with
  | cons h1 hs =>
  cases hs with
  | cons h2 hs =>
  cases hs with
  | cons h3 hs =>
  cases hs; cases h3
  obtain ⟨b, bxs, rfl, hb1, hb2⟩ := h1.tupRef
  obtain ⟨tm, txs, rfl, ht1, ht2⟩ := h2.tupRef
  refine ⟨_, pss_cons (ps_set (i := 3) c_walked.nd rfl (.inl rfl) (pe_mk G1 T.mk_Walk (hr6.mono (by decide)) (by rfl) T.g_Walk (pa_cons (pv 0) (pa_cons (pv 1) pa_nil))))
    (pss_cons (ps_expr (pe_mt G2 hr6 (pv 3) T.cl_Walk T.m_Walk_go_to (pa_cons (pv 2) pa_nil))) (pss_one (ps_ret (pv 3)))), ?_⟩
  refine ⟨_, rfl, _, rfl, ?_⟩
  intro x dx nx ndx nex
  have s0 : Same H (upd (upd H dx (.own x)) x (.ins (cW K) dx [])) := (Same.up ndx).up2 nx
  refine ⟨x, dx, b, tm, bk, t, rfl, upd_same, h1.mono s0, h2.mono s0, fun a H1 ax x1 k1 f1 => ⟨rfl, ?_⟩⟩
  subst ax
  have s1 : Same H H1 := fun b' o e => k1 b' o (s0 b' o e) (ne_of_none e nx)
  have fr : ∀ b' ∈ a.fp, H b' = none := fun b' hb => (f1 b' hb).elim (fun e => e ▸ nx) fun e => s0.no e
  refine me_V (Evl.ev_var rfl) x1.ins (a.m9 _ _ _ _) (Evl.ea_cons (Evl.ev_var rfl) Evl.ea_nil) fun H2 s2 => ⟨a, bk, t, day, rfl, x1.same s2, ok.bk, ok.day.1, ok.day.2, ok.t1, ok.t2, fun H3 a3 n ls st3 x3 => ?_⟩
  have st : Stp H H3 a a3 := (Stp.same (s1.tr s2) a).trans st3
  have sF : Same H H3 := fun b' o e => st.keep b' o e (WAd.newA fr e)
  have fr3 : ∀ b' ∈ a3.fp, H b' = none := fun b' hb => (st.fp b' hb).elim (fr b') id
  refine Evl.s_ret (Evl.ev_var rfl) fun H4 s4 => ?_
  rw [← st3.fxx]
  exact q a3 H4 n ls (sF.tr s4) (x3.same s4) fr3
def fMarks (ks ls : List NestedKey) : Prop := ∃ bk t day, ks = argK bk t day ∧ WOk bk t day ∧ ls = (WS.goTo t bk day).marks.map markK
theorem ok_marks : Ok P w K mg base 8 ("marks", none) ["book", "terms", "day"] (spL fMarks) := by
  have G := ok_walked (P := P) (w := w) (base := base) T
  refine ok_of T.f_marks c_marks (fun _ _ _ _ _ _ us hl => match us, hl with | [_, _, _], _ => rfl) (len_L fun ks k ⟨bk, t, day, e, _⟩ => by rw [e]; rfl) (fun cdv A outer s H vs Q E hr h => ?_)
  obtain ⟨ks, ls, ⟨bk, t, day, rfl, ok, rfl⟩, hs, q⟩ := h
  have hr7 : Room 7 _ := hr
  cases hs with
  | cons h1 hs =>
  cases hs with
  | cons h2 hs =>
  cases hs with
  | cons h3 hs =>
  cases hs
  refine ⟨_, pss_one (ps_ret (pe_fld (pe_fn G hr7 (by rfl) T.g_walked (pa_cons (pv 0) (pa_cons (pv 1) (pa_cons (pv 2) pa_nil)))) rfl)), ?_⟩
  refine ⟨_, rfl, _, rfl, _, rfl, ?_⟩
  refine ⟨bk, t, day, .cons h1 (.cons h2 (.cons h3 .nil)), ok, fun a H1 n ls s1 x1 fr => ?_⟩
  obtain ⟨xs, e1, e2⟩ := x1.marks
  exact ⟨a.x, _, _, _, _, rfl, x1.ins, T.cl_Walk, T.n_Walk_marks, a.f8 _ _ _ _, q a.marks xs H1 (fr _ a.mem.2.2.2.2.2.2.1) s1 e1 e2⟩
end
end CB
/-! CBO3 -/
set_option Elab.async false
set_option autoImplicit false
set_option linter.all false
set_option maxRecDepth 100000
set_option maxHeartbeats 2000000
/-! sums. -/
namespace CB
open PySem PySem.Spec PyProof.Rows L2
open Evl (Ev EvT EvA EvO)
section
variable {K : PySem.W.Frag} {σ : L2.St} {H : Hp} {tl te : TE} {g : TG} {vs : List Nat} {a : Addr} {xs : List V}
/-- [e for target in l], l a list that stands -/
theorem lc_list {R : Nat → Hp → V → Prop} (mono : ∀ i H H' v, TupLe H H' → R i H v → R i H' v) (h : Ev tl σ H (.ref a)) (hs : SqL K H a xs) (hl : xs.length ≤ 40000)
    (turn : ∀ i x H1, xs[i]? = some x → Same H H1 → ∀ Q : L2.St → Hp → Prop, (∀ σ2 H2, Same H1 H2 → wipe σ2 vs = wipe σ vs → EvI te σ2 H2 (R i) → Q σ2 H2) → g x (wipe σ vs) H1 Q)
    (Q : VK) (q : ∀ p ys H2, H p = none → Same H H2 → H2 p = some (.lst ys) → Paired (fun y i => R i H2 y) ys (List.range xs.length) → Q (.ref p) H2) : tLc (iList K tl) g tYes te vs σ H Q := by
  refine h H (Evl.Ex.refl _) _ fun H1 s1 => ⟨a, rfl, ⟨xs, sqL_same s1 hs⟩, ?_⟩
  intro D hD
  have upW : ∀ {Ha Hb : Hp} {ys : List V} {L : List Nat}, Same Ha Hb → Paired (fun y i => R i Ha y) ys L → Paired (fun y i => R i Hb y) ys L := fun s h => Paired.mapP h fun a b r => mono b _ _ a (.of_same s) r
  refine ⟨fun i m H' => m = xs.length - i ∧ i ≤ xs.length ∧ ∃ acc, Same H1 H' ∧ H' D = some (.lst acc) ∧ Paired (fun y i => R i H' y) acc (List.range i), ⟨xs.length, by simp, Nat.zero_le _, [], .up hD, upd_same, .nil⟩, ?_⟩
  rintro i m H' ⟨rfl, hi, acc, s', hD', hp⟩
  have sH : SqL K H' a xs := sqL_same (s1.tr s') hs
  rcases Nat.lt_or_ge i xs.length with lt | ge
  · have la : acc.length = i := by rw [Paired.length hp, List.length_range]
    obtain ⟨x', hx⟩ : ∃ x', xs[i]? = some x' := ⟨_, List.getElem?_eq_getElem lt⟩
    refine .inr ⟨⟨xs, x', sH, hx⟩, fun H3 => i + 1 ≤ xs.length ∧ ∃ acc, Same H1 H3 ∧ H3 D = some (.lst acc) ∧ Paired (fun y i => R i H3 y) acc (List.range (i + 1)), fun H3 ⟨a1, a2⟩ => ⟨_, by omega, rfl, a1, a2⟩, fun x H3 y => ?_⟩
    obtain ⟨rfl, y⟩ := y
    have hx' := y xs sH
    refine turn i x _ hx' (s1.tr s') _ fun σ2 H4 s4 hw he => ⟨hw, ?_⟩
    unfold tYes
    dsimp only
    rw [if_pos rfl]
    refine he H4 (.rf _) _ fun v H6 s6 hv => ?_
    have s36 : Same H3 H6 := s4.tr s6
    refine ⟨acc, s36 _ _ hD', Nat.lt_of_le_of_lt (by omega : acc.length ≤ 40000) (by decide), lt, acc ++ [v], (s'.tr s36).up2 hD, upd_same, ?_⟩
    rw [List.range_succ]
    have tl : TupLe H6 (upd H6 D (.lst (acc ++ [v]))) := fun b ys e => by
      rw [upd_ne (ne_of e (s36 _ _ hD') (by intro z; cases z))]; exact e
    exact Paired.snoc (Paired.mapP (upW s36 hp) fun a b r => mono b _ _ a tl r) (mono i _ _ v tl hv)
  · obtain rfl : i = xs.length := by omega
    exact .inl ⟨⟨xs, sH, Nat.le_refl _⟩, q D acc H' (Same.no s1 hD) (s1.tr s') hD' hp⟩
end
theorem paired_off {α : Type} {Pr : V → α → Prop} : ∀ (as pre : List α) (ys : List V), Paired (fun y i => ∃ e, (pre ++ as)[i]? = some e ∧ Pr y e) ys ((List.range as.length).map (· + pre.length)) → Paired Pr ys as
  | [], pre, ys, h => by cases h; exact .nil
  | e :: as, pre, ys, h => by
    rw [List.length_cons, List.range_succ_eq_map, List.map_cons, List.map_map] at h
    cases h with
    | cons h1 h2 =>
      obtain ⟨e', he, hp⟩ := h1
      rw [Nat.zero_add, List.getElem?_append_right (Nat.le_refl _), Nat.sub_self] at he
      cases he
      refine .cons hp (paired_off as (pre ++ [e]) _ ?_)
      have e1 : (pre ++ [e]) ++ as = pre ++ e :: as := by simp
      have e2 : ((fun x => x + pre.length) ∘ Nat.succ) = fun x => x + (pre ++ [e]).length := funext fun x => by
        show Nat.succ x + pre.length = x + (pre ++ [e]).length
        rw [List.length_append, List.length_singleton]; omega
      rw [e1, ← e2]
      exact h2
theorem paired_range {α : Type} {Pr : V → α → Prop} {as : List α} {ys : List V} (h : Paired (fun y i => ∃ e, as[i]? = some e ∧ Pr y e) ys (List.range as.length)) : Paired Pr ys as := by
  refine paired_off as [] ys ?_
  have e : (List.range as.length).map (· + ([] : List α).length) = List.range as.length := by
    have : (fun x => x + ([] : List α).length) = id := funext fun x => rfl
    rw [this, List.map_id]
  rw [e]
  exact h
theorem paired_map {α : Type} {f : α → V} : ∀ {ys : List V} {as : List α}, Paired (fun y e => y = f e) ys as → ys = as.map f
  | _, _, .nil => rfl
  | _, _, .cons h t => by rw [h, paired_map t]; rfl
theorem lenSum_int (as : List (Pg × List Due)) : (as.map fun e => (e.2.length : Int)).sum = (lenSum as : Int) := by
  unfold lenSum
  induction as with
  | nil => rfl
  | cons e as ih => rw [List.map_cons, List.map_cons, List.sum_cons, List.sum_cons, ih, Int.natCast_add]
theorem ansAt.list {H : Hp} {al : List Addr} {as : List (Pg × List Due)} {xs : List V} (r : Paired (ansAt H al) xs as) {i : Nat} {x : V} (h : xs[i]? = some x) : ∃ e, as[i]? = some e ∧ ansAt H al x e := paired_get r h
theorem s_asgCB1 {te : TE} {r : List V → Hp → VK → Prop} {D : Ends} {σ : L2.St} {H : Hp} {i : Nat} (h : te σ H fun v H1 => r [v] H1 fun x H2 => D.nx (σ.set i (some x)) H2) : tAsg (tCB r (tCons te tNil)) (gName i) D σ H := h
theorem ev_lenDN {P : Program} {w : World} {td : TE} {σ : L2.St} {H : Hp} {d : Addr} {kvs : List (NestedKey × V)} (h : Ev td σ H (.ref d)) (dn : DN P w H d kvs) : Ev (tCB (rLenN P w) (tCons td tNil)) σ H (.int kvs.length) := fun H3 s3 Q3 q3 => h H3 s3 _ fun H4 s4 => ⟨d, kvs, rfl, dn.same (Same.tr s3 s4), q3 H4 s4⟩
theorem sw_walked {P : Program} {w : World} {C : Addr} {ta : TA} {E : XK} {D : Ends} {σ : L2.St} {H : Hp} {i : Nat} {bk : List Pg} {t : Int × Int} {day : Int} (h : EvKs ta σ H (argK bk t day)) (ok : WOk bk t day)
    (q : ∀ a H' n ls, Same H H' → W P w H' C a ⟨bk, t, ls⟩ n (WS.goTo t bk day) → (∀ b ∈ a.fp, H b = none) → D.nx (σ.set i (some (.ref a.x))) H') : tAsg (tCall (spWalked P w C) [] E ta) (gName i) D σ H :=
  h H (.rf _) _ fun vs H1 s1 hv => by
    show spWalked P w C (vs ++ []) H1 _ E
    rw [List.append_nil]
    exact ⟨bk, t, day, hv, ok, fun a H' n ls s x f => q a H' n ls (s1.tr s) x fun b hb => s1.no (f b hb)⟩
section
variable {P : Program} {w : World} {K : PySem.W.Frag} {mg : Str → Option Value} {base : Heap} (T : Tp K mg)
include T
def sixOf (ws : WS) : List NestedKey := [.num ws.made, .num ws.copied, .num (ws.falls.length : Int), .num (lenSum ws.answers : Int), .num ws.struck, .num ws.merged]
def fSums (ks : List NestedKey) (k : NestedKey) : Prop := ∃ bk t day, ks = argK bk t day ∧ WOk bk t day ∧ k = .tup (sixOf (WS.goTo t bk day))
theorem ok_sums : Ok P w K mg base 8 ("sums", none) ["book", "terms", "day"] (spF fSums) := by
  have G := ok_walked (P := P) (w := w) (base := base) T
  refine ok_of T.f_sums c_sums (fun _ _ _ _ _ _ us hl => match us, hl with | [_, _, _], _ => rfl) (len_F fun ks k ⟨bk, t, day, e, _⟩ => by rw [e]; rfl) (fun cdv A outer s H vs Q E hr h => ?_)
  obtain ⟨ks, k, ⟨bk, t, day, rfl, ok, rfl⟩, hs, q⟩ := h
  have hr7 : Room 7 _ := hr
  cases hs with
  | cons h1 hs =>
  cases hs with
  | cons h2 hs =>
  cases hs with
  | cons h3 hs =>
  cases hs
  refine ⟨_, pss_cons (ps_set (i := 3) c_sums.nd rfl (.inl rfl) (pe_fn G hr7 (by rfl) T.g_walked (pa_cons (pv 0) (pa_cons (pv 1) (pa_cons (pv 2) pa_nil)))))
    (pss_cons (ps_set (i := 4) c_sums.nd rfl (.inl rfl) (pe_callB (cr_sum rfl) (by rfl) T.b_sum PyProof.Rows.boot_sum (pa_cons (pe_lc (own := [("page", 5), ("paid", 6)]) (g := gTup K 2 (gCons (gName 5) (gCons (gName 6) gNil))) (te := tCB (rLen0 K) (tCons (tVar 6) tNil))
        rfl c_sums.nd (pi_list (pe_fld (pv 3) rfl)) (blkOk_by (N := ["book", "terms", "day", "walk", "answered", "page", "paid"]) (sc := defScope s_sums) (by decide +kernel)) (fun _ _ _ _ _ => pg_tup rfl (pgs_cons (pg_name (i := 5) c_sums.nd rfl (.inl rfl)) (pgs_cons (pg_name (i := 6) c_sums.nd rfl (.inl rfl)) pgs_nil)))
        (fun _ _ _ _ _ => pts_nil) (fun _ _ _ _ _ => pe_callB call_len_seq (by rfl) T.b_len PySem.boot_len (pa_cons (pv 6) pa_nil))) pa_nil)))
    (pss_one (ps_ret (pe_tup (pa_cons (pe_fld (pv 3) rfl) (pa_cons (pe_fld (pv 3) rfl) (pa_cons (pe_callB call_lenN (by rfl) T.b_len PySem.boot_len (pa_cons (pe_fld (pv 3) rfl) pa_nil)) (pa_cons (pv 4) (pa_cons (pe_fld (pv 3) rfl) (pa_cons (pe_fld (pv 3) rfl) pa_nil)))))))))), ?_⟩
  refine sw_walked (eks_cons (ek_var rfl h1) (eks_cons (ek_var rfl h2) (eks_cons (ek_var rfl h3) eks_nil))) ok fun a H1 n ls s1 x1 fr => ?_
  generalize WS.goTo t bk day = ws at x1 q
  obtain ⟨xs, e1, e2⟩ := x1.ans
  have hlen := Paired.length e2
  dsimp only
  refine s_asgCB1 ?_
  refine lc_list (K := K) (a := a.answers) (xs := xs) (R := fun i H v => ∃ e, ws.answers[i]? = some e ∧ v = .int (e.2.length : Int)) (fun _ _ _ _ _ h => h) (x1.e9 T (Evl.ev_var rfl)) (.of e1) (by have := x1.bnd.2.2; have := x1.le; omega) (fun i y H2 hy s2 Q1 q1 => ?_) _ fun p ys H2 hp s2 hp2 hpr => ?_
  · obtain ⟨e, he, z⟩ := ansAt.list e2 hy
    obtain ⟨tp, v, l, zs, rfl, z1, z2, z3, z4, z5⟩ := z.keep (TupLe.of_same s2) fun b _ u hu => s2 _ _ hu
    refine ⟨tp, _, rfl, .of z1, rfl, _, _, rfl, _, _, rfl, rfl, q1 _ H2 (.rf _) rfl ?_⟩
    intro H3 s3 Q2 q2
    have lz : zs.length = e.2.length := by rw [z5.length]; unfold dueKs; rw [List.length_map]
    refine (ev_lenAt (a := l) (xs := zs) (Evl.ev_var rfl) (.of (s3 _ _ z4))) H3 (Evl.Ex.refl _) _ fun H4 s4 => ?_
    exact q2 _ H4 s4 ⟨e, he, by rw [lz]⟩
  · rw [hlen] at hpr
    have ey : ys = (ws.answers.map fun e => (e.2.length : Int)).map V.int := by
      rw [List.map_map]
      exact paired_map (paired_range (Pr := fun y (e : Pg × List Due) => y = V.int (e.2.length : Int)) hpr)
    subst ey
    refine ⟨p, _, rfl, .of hp2, ?_⟩
    rw [lenSum_int]
    have x2 := x1.same s2
    obtain ⟨kvs, dn, r⟩ := x2.falls
    refine s_retK (ek_tup (eks_cons (ek_num (x2.ea T (Evl.ev_var rfl))) (eks_cons (ek_num (x2.eb T (Evl.ev_var rfl))) (eks_cons (ek_num (ev_lenDN (x2.e7 T (Evl.ev_var rfl)) dn)) (eks_cons (ek_num (Evl.ev_var rfl)) (eks_cons (ek_num (x2.ec T (Evl.ev_var rfl))) (eks_cons (ek_num (x2.ed T (Evl.ev_var rfl))) eks_nil))))))) fun v H3 s3 hv => ?_
    rw [falls_len r] at hv
    exact q v H3 ((s1.tr s2).tr s3) hv
end
end CB
/-! CBN4 -/
set_option Elab.async false
set_option autoImplicit false
set_option linter.all false
/-! Plain: the bound of the dues at the end; the falls' lists. -/
namespace CB
open PySem
theorem eat_len {pages lost : List Pg} (hn : pages.Nodup) (hl : lost = idleOf pages) (hu : ∀ p ∈ pages, p.unlike) (day : Int) : ∀ (rest pre : List Pg) (w : WS), pages = pre ++ rest → MI pre (pre.foldl HS.meet HS.start) w → w.falls.length ≤ capN pre →
    ∃ pre', pages = pre' ++ (WS.eat lost day rest w).2 ∧ MI pre' (pre'.foldl HS.meet HS.start) (WS.eat lost day rest w).1 ∧ (WS.eat lost day rest w).1.falls.length ≤ capN pre'
  | [], pre, w, e, m, c => ⟨pre, e, m, c⟩
  | p :: r, pre, w, e, m, c => by
    unfold WS.eat
    by_cases h : p.day = day
    · rw [if_pos h]
      have hp : p ∉ pre := by
        rw [e] at hn
        exact fun q => (List.nodup_append.mp hn).2.2 p q p List.mem_cons_self rfl
      have hl2 : p ∈ lost ↔ (pre.foldl HS.meet HS.start).can p = false := by
        rw [hl, e]; exact lost_iff (by rw [← e]; exact hn)
      have hup := hu p (by rw [e]; exact List.mem_append_right _ List.mem_cons_self)
      have m2 := m.mark hp hl2 hup
      have c2 := mark_len m hl2 hup c
      have ef : (pre ++ [p]).foldl HS.meet HS.start = (pre.foldl HS.meet HS.start).meet p := by rw [List.foldl_append]; rfl
      exact eat_len hn hl hu day r (pre ++ [p]) (w.mark lost p) (by rw [e, List.append_assoc]; rfl) (by rw [ef]; exact m2) c2
    · rw [if_neg h]
      exact ⟨pre, e, m, c⟩
theorem run_len {pages lost : List Pg} (hn : pages.Nodup) (hl : lost = idleOf pages) (hu : ∀ p ∈ pages, p.unlike) (t : Int × Int) : ∀ (n : Nat) (first : Int) (w : WS) (rest pre : List Pg), pages = pre ++ rest →
    MI pre (pre.foldl HS.meet HS.start) w → w.falls.length ≤ capN pre → (WS.run t lost first n (w, rest)).1.falls.length ≤ capN pages
  | 0, first, w, rest, pre, e, m, c => by rw [e]; exact Nat.le_trans c (capN_pre _ _)
  | n + 1, first, w, rest, pre, e, m, c => by
    obtain ⟨pre', i1, i2, i3⟩ := eat_len hn hl hu first rest pre w e m c
    exact run_len hn hl hu t n (first + 1) ((WS.eat lost first rest w).1.fall t first) (WS.eat lost first rest w).2 pre' i1 (i2.fall t first) (by rw [fall_len]; exact i3)
theorem goTo_len {book : List Pg} (hn : book.Nodup) (hu : ∀ p ∈ book, p.unlike) (t : Int × Int) (last : Int) : (WS.goTo t book last).falls.length ≤ capN (book.filter fun p => decide (p.day ≤ last)) := by
  unfold WS.goTo
  cases q : book.filter fun p => decide (p.day ≤ last) with
  | nil => exact Nat.zero_le _
  | cons p r =>
    have hn' : (p :: r).Nodup := by rw [← q]; exact hn.filter _
    have hmem : ∀ x ∈ p :: r, x ∈ book := fun x hx => by
      rw [← q] at hx
      exact (List.mem_filter.mp hx).1
    exact run_len hn' rfl (fun x hx => hu x (hmem x hx)) t _ p.day WS.start (p :: r) [] rfl MI.start (Nat.zero_le _)
/-! what the falls' lists hold -/
def FL (B : Nat) (w : WS) : Prop := ∀ e ∈ w.falls, e.2.length ≤ B ∧ ∀ i ∈ e.2, 0 ≤ i ∧ i ≤ 90000
theorem FL.start (B : Nat) : FL B WS.start := fun e h => (nomatch h)
theorem mem_aput {κ β : Type} [DecidableEq κ] {m : List (κ × β)} {k : κ} {v : β} {e : κ × β} (h : e ∈ aput m k v) : e ∈ m ∨ e = (k, v) := by
  unfold aput at h
  split at h
  · obtain ⟨p, hp, rfl⟩ := List.mem_map.mp h
    split
    · rename_i hk; exact .inr (by rw [hk])
    · exact .inl hp
  · rcases List.mem_append.mp h with h | h
    · exact .inl h
    · exact .inr (List.mem_singleton.mp h)
def okL (B : Nat) (l : List Int) : Prop := l.length ≤ B ∧ ∀ i ∈ l, 0 ≤ i ∧ i ≤ 90000
theorem okL.nil (B : Nat) : okL B [] := ⟨Nat.zero_le _, fun i h => (nomatch h)⟩
theorem FL.of {B : Nat} {w : WS} (h : FL B w) (d : Due) : okL B (w.fallsOf d) := by
  unfold WS.fallsOf
  cases e : aget w.falls d with
  | none => exact okL.nil B
  | some l => exact h _ (aget_mem e)
theorem FL.put {B : Nat} {w : WS} (h : FL B w) {d : Due} {l : List Int} (hl : okL B l) {w' : WS} (e : w'.falls = aput w.falls d l) : FL B w' := fun x hx => by
  rw [e] at hx
  rcases mem_aput hx with hx | hx
  · exact h x hx
  · rw [hx]; exact hl
theorem FL.del {B : Nat} {w : WS} (h : FL B w) {d : Due} {w' : WS} (e : w'.falls = adel w.falls d) : FL B w' := fun x hx => by
  rw [e] at hx
  exact h x (List.mem_filter.mp hx).1
theorem FL.dels {B : Nat} (L : List Due) : ∀ {w : WS}, FL B w → ∀ {w' : WS}, w'.falls = L.foldl adel w.falls → FL B w' := by
  induction L with
  | nil =>
    intro w h w' e x hx
    exact h x (by rw [e] at hx; exact hx)
  | cons d L ih =>
    intro w h w' e
    exact ih (w := { w with falls := adel w.falls d }) (h.del rfl) e
theorem FL.lay {B : Nat} {w : WS} (h : FL B w) {d : Due} {l : List Int} (hl : okL B l) : FL B (w.lay d l) := by
  unfold WS.lay
  split
  · exact h.put hl rfl
  · split
    · exact h
    · exact h.put hl rfl
theorem FL.part {B : Nat} (a b : Str) (L : List Due) : ∀ {w : WS}, FL B w → FL B (L.foldl (WS.partStep a b) w) := by
  induction L with
  | nil => exact fun h => h
  | cons d L ih =>
    intro w h
    rw [List.foldl_cons]
    refine ih ?_
    unfold WS.partStep
    split
    · exact h.put (h.of d) rfl
    · exact h
theorem FL.join {B : Nat} (a b : Str) (L : List Due) : ∀ {w : WS}, FL B w → FL B (L.foldl (WS.joinStep a b) w) := by
  induction L with
  | nil => exact fun h => h
  | cons d L ih =>
    intro w h
    rw [List.foldl_cons]
    refine ih ?_
    unfold WS.joinStep
    split
    · split
      · exact h.del rfl
      · exact FL.lay (h.del rfl) (h.of d)
    · exact h
theorem FL.go {B : Nat} {w : WS} (h : FL B w) (p : Pg) (a b : Str) : FL B (w.go p a b).1 := by
  unfold WS.go
  split
  · exact h.put (okL.nil B) rfl
  · exact FL.dels _ h rfl
theorem FL.mark {B : Nat} {w : WS} (h : FL B w) (lost : List Pg) (p : Pg) : FL B (w.mark lost p) := by
  have key : FL B (w.put lost p).1 := by
    unfold WS.put
    split
    · exact h
    · cases p with
      | card d a b => exact h.go _ a b
      | visit d a b => exact h.go _ a b
      | part d a b l => exact (FL.part a b _ h : FL B (w.part a b))
      | join d a b => exact FL.join a b _ h
      | house d a l => exact h
      | home d a l => exact h
      | mourn d a m => exact h
      | ahead d a b => exact h
  exact key
theorem FL.fall {B : Nat} {t : Int × Int} (h1 : t.1 ≤ B) (h2 : t.2 ≤ B) {day : Int} (hd : 0 ≤ day ∧ day ≤ 90000) (L : List Due) : ∀ {w : WS}, FL B w → FL B (L.foldl (WS.fallStep t day) w) := by
  induction L with
  | nil => exact fun h => h
  | cons d L ih =>
    intro w h
    rw [List.foldl_cons]
    refine ih ?_
    unfold WS.fallStep
    split
    · rename_i hc
      refine h.put ⟨?_, fun i hi => ?_⟩ rfl
      · have ht : termOf t (w.sortOf d.2.2) ≤ B := by unfold termOf; split <;> assumption
        have := hc.1
        rw [List.length_append, List.length_singleton]; omega
      · rcases List.mem_append.mp hi with hi | hi
        · exact (h.of d).2 i hi
        · rw [List.mem_singleton.mp hi]; exact hd
    · exact h
theorem FL.eat {B : Nat} (lost : List Pg) (day : Int) : ∀ (rest : List Pg) {w : WS}, FL B w → FL B (WS.eat lost day rest w).1
  | [], w, h => h
  | p :: r, w, h => by
    unfold WS.eat
    split
    · exact FL.eat lost day r (h.mark lost p)
    · exact h
theorem FL.run {B : Nat} {t : Int × Int} (h1 : t.1 ≤ B) (h2 : t.2 ≤ B) (lost : List Pg) : ∀ (n : Nat) (first : Int) (w : WS) (rest : List Pg), FL B w → 0 ≤ first → first + n ≤ 90001 → FL B (WS.run t lost first n (w, rest)).1
  | 0, first, w, rest, h, _, _ => h
  | n + 1, first, w, rest, h, h3, h4 => FL.run h1 h2 lost n (first + 1) ((WS.eat lost first rest w).1.fall t first) (WS.eat lost first rest w).2 (FL.fall h1 h2 (by omega) _ (FL.eat lost first rest h)) (by omega) (by omega)
theorem FL.goTo {B : Nat} {t : Int × Int} (h1 : t.1 ≤ B) (h2 : t.2 ≤ B) {book : List Pg} (hd : ∀ p ∈ book, 0 ≤ p.day) {last : Int} (hl : last ≤ 90000) : FL B (WS.goTo t book last) := by
  unfold WS.goTo
  cases q : book.filter fun p => decide (p.day ≤ last) with
  | nil => exact FL.start B
  | cons p r =>
    have hm : p ∈ book.filter fun p => decide (p.day ≤ last) := by rw [q]; exact List.mem_cons_self
    have h5 := hd p (List.mem_filter.mp hm).1
    have h6 : p.day ≤ last := of_decide_eq_true (List.mem_filter.mp hm).2
    exact FL.run h1 h2 _ _ p.day WS.start (p :: r) (FL.start B) h5 (by omega)
end CB
/-! CBO4 -/
set_option Elab.async false
set_option autoImplicit false
set_option linter.all false
set_option maxRecDepth 100000
set_option maxHeartbeats 2000000
/-! Walk.dues_told, dues. -/
namespace CB
open PySem PySem.Spec PyProof.Rows L2
open PySem.W (alike alikeAll)
open Evl (Ev EvT EvA EvO)
section
variable {P : Program} {w : World} {H H' : Hp} {C : Addr} {a : WAd} {fx : WFix} {n : Nat} {ws : WS}
/-- what does not touch the object -/
theorem W.aside (x : W P w H C a fx n ws) (t : TupLe H H') (k : ∀ b ∈ a.fp, ∀ u, H b = some u → H' b = some u) : W P w H' C a fx n ws := by
  obtain ⟨m1, m2, m3, m4, m5, m6, m7, m8, m9, m10⟩ := a.mem
  exact ⟨k _ m1 _ x.ins, KAt.keep t _ _ x.book, KAt.keep t _ _ x.tm, x.lost.keep t (k _ m2), x.homes.keep t (k _ m3), x.mourned.keep t (k _ m4) fun b hb => k b (m9 b hb), x.sorts.keep t (k _ m5), x.falls.keep t (k _ m6), x.marks.keep t (k _ m7), x.ans.keep t (k _ m8) fun b hb => k b (m10 b hb),
    fun b hb => let ⟨xs, e⟩ := x.mls b hb; ⟨xs, k b ((List.mem_append.mp hb).elim (m9 b) (m10 b)) _ e⟩, x.nd, x.bnd, x.le⟩
end
def rowK (bk : List Pg) (d : Due) : NestedKey := .tup [.text d.1, .text d.2.1, .num (bk.idxOf d.2.2 : Nat)]
def tellK (ws : WS) (d : Due) : NestedKey := .tup [.text d.1, .text d.2.1, .text (ws.sortOf d.2.2), d.2.2.key, .tup (nums (ws.fallsOf d))]
def toldK (ws : WS) (bk : List Pg) : NestedKey → NestedKey
  | .tup [.text a, .text b, .num i] => match bk[i.toNat]? with
    | some p => tellK ws (a, b, p)
    | none => .none
  | _ => .none
theorem at_idx {bk : List Pg} {p : Pg} (h : p ∈ bk) : bk[bk.idxOf p]? = some p := by
  have h1 : bk.idxOf p < bk.length := List.idxOf_lt_length_of_mem h
  rw [List.getElem?_eq_getElem h1, List.getElem_idxOf]
theorem told_row {ws : WS} {bk : List Pg} {d : Due} (h : d.2.2 ∈ bk) : toldK ws bk (rowK bk d) = tellK ws d := by
  show (match bk[((bk.idxOf d.2.2 : Nat) : Int).toNat]? with | some p => tellK ws (d.1, d.2.1, p) | none => .none) = _
  rw [Int.toNat_natCast, at_idx h]
def sortedRows (ws : WS) (bk : List Pg) : List NestedKey := ((akeys ws.falls).map (rowK bk)).mergeSort leN
def toldL (ws : WS) (bk : List Pg) : List NestedKey := (sortedRows ws bk).map (toldK ws bk)
theorem row_sort (bk : List Pg) (ds : List Due) (hl : ds.length ≤ sizeLine) : SortN (ds.map (rowK bk)) where
  like := fun k hk k' hk' => by
    obtain ⟨p, _, rfl⟩ := List.mem_map.mp hk
    obtain ⟨q, _, rfl⟩ := List.mem_map.mp hk'
    simp [rowK, NestedKey.data, NestedKey.datas, alike, alikeAll]
  tup := fun k hk => by
    obtain ⟨p, _, rfl⟩ := List.mem_map.mp hk
    exact ⟨_, _, rfl⟩
  depth := depthAll_le fun k hk => by
    obtain ⟨p, _, rfl⟩ := List.mem_map.mp hk
    simp [rowK, NestedKey.depth, NestedKey.depthAll]
  len := by rw [List.length_map]; exact hl
section
variable {P : Program} {w : World} {K : PySem.W.Frag} {σ : L2.St} {H : Hp} {ta td ty : TE} {d : Addr} {bk : List Pg} {p : Pg} {ks : List NestedKey}
theorem ek_plc (h : Ev td σ H (.ref d)) (hk : EvK ty σ H p.key) (pl : Plc P w H d bk) (hp : p ∈ bk) : EvK (tNGet P w td ty) σ H (.num (bk.idxOf p : Nat)) := by
  obtain ⟨kvs, dn, r⟩ := pl
  exact ek_nget h hk dn (pg_depth8 p) (r _ _ (at_idx hp)) (.num _)
theorem Plc.same {H' : Hp} (pl : Plc P w H d bk) (s : Same H H') : Plc P w H' d bk := let ⟨kvs, dn, r⟩ := pl; ⟨kvs, dn.same s, r⟩
theorem el_sorted (h : EvLK ta σ H ks) (hs : SortN ks) : EvLK (tCB (rSortL K) (tCons ta tNil)) σ H (ks.mergeSort leN) := fun H1 e Q q => h H1 e _ fun p xs H2 hp e2 h1 h2 =>
  ⟨p, xs, ks, rfl, .of h1, h2, hs, fun p' xs' hp' hk' => q p' xs' _ (e2.no hp') (e2.tr (.up hp')) upd_same (hk'.mono (.up hp'))⟩
end
noncomputable def ofDueK (f : Due → NestedKey) (k : NestedKey) : NestedKey := open Classical in if h : ∃ d : Due, k = dueKey d then f h.choose else .none
theorem ofDueK_key (f : Due → NestedKey) (d : Due) : ofDueK f (dueKey d) = f d := by
  unfold ofDueK
  have h : ∃ e : Due, dueKey d = dueKey e := ⟨d, rfl⟩
  rw [dif_pos h]
  exact congrArg f (dueKey_inj h.choose_spec).symm
theorem dueKs_map (f : Due → NestedKey) (ds : List Due) : (dueKs ds).map (ofDueK f) = ds.map f := by
  unfold dueKs
  rw [List.map_map]
  exact List.map_congr_left fun d _ => ofDueK_key f d
theorem s_asgPl {P : Program} {w : World} {K : PySem.W.Frag} {σ : L2.St} {H : Hp} {ta : TE} {D : Ends} {i : Nat} {a : WAd} {fx : WFix} {n : Nat} {ws : WS} (x : W P w H (cW K) a fx n ws) (h : Ev ta σ H (.ref a.x)) (hn : fx.bk.Nodup) (hl : fx.bk.length ≤ 900)
    (q : ∀ d H', Same H H' → Plc P w H' d fx.bk → D.nx (σ.set i (some (.ref d))) H') : tAsg (tMeth (cW K) "places" (spPlaces P w (cW K)) [] E0 ta tNil) (gName i) D σ H :=
  me_V (a := a.x) h x.ins (a.ma _ _ _ _) Evl.ea_nil fun H1 s1 => ⟨a, fx, n, ws, rfl, x.same s1, hn, hl, fun d H2 _ s2 pl => q d H2 (s1.tr s2) pl⟩
section
variable {P : Program} {w : World} {K : PySem.W.Frag} {mg : Str → Option Value} {base : Heap} (T : Tp K mg)
include T
def spTold (P : Program) (w : World) (C : Addr) : Sp := fun vs H Q _ => ∃ a fx n ws, vs = [.ref a.x] ∧ W P w H C a fx n ws ∧ fx.bk.Nodup ∧ fx.bk.length ≤ 900 ∧ (∀ d ∈ akeys ws.falls, d.2.2 ∈ fx.bk ∧ d.2.2 ∈ akeys ws.sorts) ∧ ws.falls.length ≤ 2000 ∧
  ∀ p xs H', H p = none → Same H H' → H' p = some (.lst xs) → KAll H' xs (toldL ws fx.bk) → Q (.ref p) H'
theorem ok_told : Ok P w K mg base 2 ("Walk", some "dues_told") ["self"] (spTold P w (cW K)) := by
  have G := ok_places (P := P) (w := w) (base := base) T
  refine ok_of T.f_Walk_dues_told c_Walk_dues_told (fun _ _ _ _ _ _ us hl => match us, hl with | [_], _ => rfl) (fun vs H Q E ⟨a, fx, n, ws, e, _⟩ => by rw [e]; rfl) (fun cdv A outer s0 H vs Q E hr h => ?_)
  obtain ⟨a, fx, n, ws, rfl, x, hn, hl, hd, hf, q⟩ := h
  have hu := hr.units
  have hr1 : Room 1 _ := hr
  refine ⟨_, pss_cons (ps_set (i := 1) c_Walk_dues_told.nd rfl (.inr rfl) (pe_mt0 G hr1 (pv 0) T.cl_Walk T.m_Walk_places))
    (pss_cons (ps_set (i := 2) c_Walk_dues_told.nd rfl (.inl rfl) (pe_callB (cr_sortL hu) (by rfl) T.b_sorted PyProof.Rows.boot_sorted (pa_cons (pe_lc (own := [("due", 8)]) (g := gName 8) (te := tTup (tCons (tOp (rIxT K) (tVar 8) (tC (.int 0))) (tCons (tOp (rIxT K) (tVar 8) (tC (.int 1))) (tCons (tNGet P w (tVar 1) (tOp (rIxT K) (tVar 8) (tC (.int 2)))) tNil))))
        rfl c_Walk_dues_told.nd (pi_dn (pe_fld (pv 0) rfl)) (blkOk_by (N := ["self", "at", "rows", "found", "ower", "owed", "k", "page", "due"]) (sc := defScope s_Walk_dues_told) (by decide +kernel)) (fun _ _ _ _ _ => pg_name (i := 8) c_Walk_dues_told.nd rfl (.inl rfl))
        (fun _ _ _ _ _ => pts_nil) (fun _ _ _ _ _ => pe_tup (pa_cons (pe_ix ix_tup (pv 8) pe_int (fun _ _ => rfl)) (pa_cons (pe_ix ix_tup (pv 8) pe_int (fun _ _ => rfl)) (pa_cons (pe_nget hu (pv 1) (pe_ix ix_tup (pv 8) pe_int (fun _ _ => rfl)) (fun _ _ => rfl)) pa_nil))))) pa_nil)))
    (pss_cons (ps_set (i := 3) c_Walk_dues_told.nd rfl (.inl rfl) (pe_lst pa_nil))
    (pss_cons (ps_for .never rfl (pi_list (pv 2)) (pg_tup rfl (pgs_cons (pg_name (i := 4) c_Walk_dues_told.nd rfl (.inl rfl)) (pgs_cons (pg_name (i := 5) c_Walk_dues_told.nd rfl (.inl rfl)) (pgs_cons (pg_name (i := 6) c_Walk_dues_told.nd rfl (.inl rfl)) pgs_nil))))
      (pss_cons (ps_set (i := 7) c_Walk_dues_told.nd rfl (.inl rfl) (pe_ix ix_tup (pe_fld (pv 0) rfl) (pv 6) (fun _ _ => rfl)))
      (pss_one (ps_expr (pe_bm PySem.F.plainAttrs_list PySem.F.slot_list_append PySem.F.type_list_append mt_append (pv 3) (pa_cons (pe_tup (pa_cons (pv 4) (pa_cons (pv 5) (pa_cons (pe_nget hu (pe_fld (pv 0) rfl) (pv 7) (fun _ _ => rfl)) (pa_cons (pv 7) (pa_cons (pe_nget hu (pe_fld (pv 0) rfl) (pe_tup (pa_cons (pv 4) (pa_cons (pv 5) (pa_cons (pv 7) pa_nil)))) (fun _ _ => rfl)) pa_nil)))))) pa_nil))))))
    (pss_one (ps_ret (pv 3)))))), ?_⟩
  refine s_asgPl x (Evl.ev_var rfl) hn hl fun pd H1 s1 pl => ?_
  have x1 := x.same s1
  obtain ⟨kvs, dn, r⟩ := x1.falls
  have kl : (kvs.map (·.1)) = dueKs (akeys ws.falls) := falls_keys r
  have kn := keys_len ws.falls
  dsimp only
  refine s_asgLK (ks := sortedRows ws fx.bk) (el_sorted (ks := (akeys ws.falls).map (rowK fx.bk)) ?_ (row_sort _ _ (Nat.le_trans (kn ▸ hf) (by decide)))) fun rp rxs H2 hrp s2 hr2 hrk2 => ?_
  · have e : (akeys ws.falls).map (rowK fx.bk) = (((kvs.map (·.1)).filter fun _ => true)).map (ofDueK (rowK fx.bk)) := by rw [filt_true, kl, dueKs_map]
    rw [e]
    refine el_lc (src_dn (x1.e7 T (Evl.ev_var rfl)) dn) (by rw [List.length_map, falls_len r]; omega) fun k hk H3 y s3 hy => ?_
    rw [kl] at hk
    obtain ⟨d, hdm, rfl⟩ := mem_dueKs hk
    refine turn_name hy rfl et_yes fun _ => ?_
    rw [ofDueK_key]
    exact ek_tup (eks_cons (ek_ix (ek_var rfl hy) Evl.ev_c (d0 d)) (eks_cons (ek_ix (ek_var rfl hy) Evl.ev_c (d1 d)) (eks_cons (ek_plc (Evl.ev_var rfl) (ek_ix (ek_var rfl hy) Evl.ev_c (d2 d)) (pl.same s3) (hd d hdm).1) eks_nil)))
  dsimp only
  refine s_asgLK (ks := []) (el_lstK eks_nil) fun fp fxs H3 hfp s3 hf3 hfk3 => ?_
  cases hfk3
  have s13 : Same H1 H3 := s2.tr s3
  have s03 : Same H H3 := s1.tr s13
  have x3 := x1.same s13
  have hr3 := s3 _ _ hr2
  have hrk3 := hrk2.mono s3
  have fpn : fp ∉ a.fp := (x1.same s2).new hfp
  have hfpH : H fp = none := s1.no (s2.no hfp)
  have fpr : rp ≠ fp := ne_of_none hr2 hfp
  have lr : rxs.length = (sortedRows ws fx.bk).length := hrk3.length
  have lr2 : (sortedRows ws fx.bk).length = ws.falls.length := by unfold sortedRows; rw [List.length_mergeSort, List.length_map, kn]
  dsimp only
  refine ⟨.ref rp, rfl, rp, rfl, ⟨rxs, .of hr3⟩, for_list (K := K) (a := rp) (xs := rxs) (fun i σ' H' => (σ'.length = 9 ∧ σ'[0]? = some (some (.ref a.x)) ∧ σ'[3]? = some (some (.ref fp))) ∧ H' rp = some (.lst rxs) ∧ Same H H' ∧ TupLe H3 H' ∧ W P w H' (cW K) a fx n ws ∧ ∃ acc, H' fp = some (.lst acc) ∧ KAll H' acc (((sortedRows ws fx.bk).take i).map (toldK ws fx.bk)))
    ⟨⟨rfl, rfl, rfl⟩, hr3, s03, .refl _, x3, [], hf3, .nil⟩ (fun i σ' H' _ h => .of h.2.1) ?_ ?_⟩
  · rintro i v σ' H4 hi ⟨⟨sh0, sh1, sh2⟩, hr4, s4, t4, x4, acc, hacc, hka⟩
    obtain ⟨k, hk', hv⟩ := hrk3.getV hi
    have ht : (sortedRows ws fx.bk).take (i + 1) = (sortedRows ws fx.bk).take i ++ [k] := by rw [List.take_add_one, hk']; simp
    have hm : k ∈ (akeys ws.falls).map (rowK fx.bk) := (List.mergeSort_perm _ _).mem_iff.mp (List.mem_of_getElem? hk')
    obtain ⟨d, hdm, rfl⟩ := List.mem_map.mp hm
    obtain ⟨hd1, hd2⟩ := hd d hdm
    have li : i < ws.falls.length := by rw [← lr2]; exact (List.getElem?_eq_some_iff.mp hk').1
    obtain ⟨σ0, σ1, σ2, σ3, σ4, σ5, σ6, σ7, σ8, rfl⟩ : ∃ a b c d e f g h i, σ' = [a, b, c, d, e, f, g, h, i] := by
      match σ', sh0 with
      | [a, b, c, d, e, f, g, h, i], _ => exact ⟨a, b, c, d, e, f, g, h, i, rfl⟩
    cases sh1
    cases sh2
    obtain ⟨tp, txs, rfl, h1, h2⟩ := (KAt.keep t4 _ _ hv).tupRef
    cases h2 with
    | cons g1 h2 =>
    cases h2 with
    | cons g2 h2 =>
    cases h2 with
    | cons g3 h2 =>
    cases h2; cases g1; cases g2; cases g3
    refine ⟨tp, _, rfl, .of h1, rfl, _, _, rfl, _, _, rfl, _, _, rfl, rfl, ?_⟩
    have hidx : atI (pgs fx.bk) ((fx.bk.idxOf d.2.2 : Nat) : Int) = some d.2.2.key := by
      refine atI_nat ?_
      unfold pgs
      rw [List.getElem?_map, at_idx hd1]; rfl
    dsimp only
    refine s_asgK (ek_ix (ek_of (x4.e1 T (Evl.ev_var rfl)) x4.book) (Evl.ev_var rfl) hidx) fun pv H5 s5 hpv => ?_
    have x5 := x4.same s5
    have hacc5 := s5 _ _ hacc
    have lacc : acc.length ≤ 2000 := by
      have := hka.length
      rw [List.length_map, List.length_take] at this
      omega
    refine s_app (k := tellK ws d) (Evl.ev_var rfl) (eks_cons (ek_tup (eks_cons (ek_text (Evl.ev_var rfl)) (eks_cons (ek_text (Evl.ev_var rfl)) (eks_cons (ek_sget x5 (x5.e6 T (Evl.ev_var rfl)) (ek_var rfl hpv) hd2) (eks_cons (ek_var rfl hpv) (eks_cons (ek_fget x5 (x5.e7 T (Evl.ev_var rfl)) (ek_tup (eks_cons (ek_text (Evl.ev_var rfl)) (eks_cons (ek_text (Evl.ev_var rfl)) (eks_cons (ek_var rfl hpv) eks_nil)))) hdm) eks_nil)))))) eks_nil) hacc5 lacc fun u H6 W6 hu6 => ?_
    have t56 : TupLe H5 H6 := W6.tup fun ys e => by rw [hacc5] at e; cases e
    have k6 : ∀ b ∈ a.fp, ∀ u, H5 b = some u → H6 b = some u := fun b hb u e => W6.keep b u (fun z => fpn (z ▸ hb)) e
    refine ⟨⟨rfl, rfl, rfl⟩, W6.keep rp _ fpr (s5 _ _ hr4), fun b o e => W6.keep b o (ne_of_none e hfpH) (s5 _ _ (s4 _ _ e)), (t4.trans (.of_same s5)).trans t56, x5.aside t56 k6, _, W6.at_, ?_⟩
    rw [ht, List.map_append]
    refine (KAll.keep t56 _ _ (hka.mono s5)).append (.cons ?_ .nil)
    rw [told_row hd1]
    exact hu6
  · rintro σ' H4 ⟨⟨sh0, sh1, sh2⟩, hr4, s4, t4, x4, acc, hacc, hka⟩
    rw [lr, List.take_length] at hka
    exact Evl.s_ret (Evl.ev_var sh2) fun H5 s5 => q fp acc H5 hfpH (s4.tr s5) (s5 _ _ hacc) (hka.mono s5)
def fDues (ks ls : List NestedKey) : Prop := ∃ bk t day, ks = argK bk t day ∧ WOk bk t day ∧ ls = toldL (WS.goTo t bk day) bk
omit T in
theorem WOk.pages {bk : List Pg} {t : Int × Int} {day : Int} (ok : WOk bk t day) : (∀ d ∈ akeys (WS.goTo t bk day).falls, d.2.2 ∈ bk ∧ d.2.2 ∈ akeys (WS.goTo t bk day).sorts) ∧ (WS.goTo t bk day).falls.length ≤ 2000 := by
  obtain ⟨s, _, m⟩ := goTo_facts ok.bk.nodup ok.bk.rise ok.bk.unl t day
  refine ⟨fun d hd => ⟨?_, m.sorts _ (m.page d hd)⟩, ?_⟩
  · have h1 : d.2.2 ∈ (WS.goTo t bk day).marks.map (·.1) := List.mem_map.mpr ⟨_, m.page d hd, rfl⟩
    rw [m.marks] at h1
    exact (List.mem_filter.mp h1).1
  · exact Nat.le_trans (goTo_len ok.bk.nodup ok.bk.unl t day) (ok.bk.filter _).cap
theorem ok_dues : Ok P w K mg base 8 ("dues", none) ["book", "terms", "day"] (spL fDues) := by
  have G := ok_walked (P := P) (w := w) (base := base) T
  have G2 := ok_told (P := P) (w := w) (base := base) T
  refine ok_of T.f_dues c_dues (fun _ _ _ _ _ _ us hl => match us, hl with | [_, _, _], _ => rfl) (len_L fun ks k ⟨bk, t, day, e, _⟩ => by rw [e]; rfl) (fun cdv A outer s H vs Q E hr h => ?_)
  obtain ⟨ks, ls, ⟨bk, t, day, rfl, ok, rfl⟩, hs, q⟩ := h
  have hr7 : Room 7 _ := hr
  cases hs with
  | cons h1 hs =>
  cases hs with
  | cons h2 hs =>
  cases hs with
  | cons h3 hs =>
  cases hs
  refine ⟨_, pss_one (ps_ret (pe_mt0 G2 (hr7.mono (by decide)) (pe_fn G hr7 (by rfl) T.g_walked (pa_cons (pv 0) (pa_cons (pv 1) (pa_cons (pv 2) pa_nil)))) T.cl_Walk T.m_Walk_dues_told)), ?_⟩
  refine ⟨_, rfl, _, rfl, _, rfl, ?_⟩
  refine ⟨bk, t, day, .cons h1 (.cons h2 (.cons h3 .nil)), ok, fun a H1 n ls s1 x1 fr => ?_⟩
  refine ⟨a.x, _, _, rfl, x1.ins, a.mb _ _ _ _, ?_⟩
  obtain ⟨hp1, hp2⟩ := ok.pages
  exact ⟨a, _, n, _, rfl, x1, ok.bk.nodup, ok.bk.len, hp1, hp2, fun p xs H2 hp s2 e1 e2 => q p xs H2 (s1.no hp) (s1.tr s2) e1 e2⟩
end
end CB
/-! CBO5 -/
set_option Elab.async false
set_option autoImplicit false
set_option linter.all false
set_option maxRecDepth 100000
set_option maxHeartbeats 2000000
/-! owes, matters. -/
namespace CB
open PySem PySem.Spec PyProof.Rows L2
open Evl (Ev EvT EvA EvO)
def pairB (a b : Str) : NestedKey → Bool
  | .tup l => decide (l.take 2 = [.text a, .text b])
  | _ => false
def pairK : NestedKey → NestedKey
  | .tup l => .tup (l.take 2)
  | k => k
theorem pairK_tell (ws : WS) (d : Due) : pairK (tellK ws d) = prK (d.1, d.2.1) := rfl
theorem mem_toldL {ws : WS} {bk : List Pg} (hb : ∀ d ∈ akeys ws.falls, d.2.2 ∈ bk) {k : NestedKey} (h : k ∈ toldL ws bk) : ∃ d ∈ akeys ws.falls, k = tellK ws d := by
  obtain ⟨r, hr, rfl⟩ := List.mem_map.mp h
  obtain ⟨d, hd, rfl⟩ := List.mem_map.mp ((List.mergeSort_perm _ _).mem_iff.mp hr)
  exact ⟨d, hd, told_row (hb d hd)⟩
theorem toldL_len (ws : WS) (bk : List Pg) : (toldL ws bk).length = ws.falls.length := by
  unfold toldL sortedRows
  rw [List.length_map, List.length_mergeSort, List.length_map, keys_len]
section
variable {K : PySem.W.Frag} {σ : L2.St} {H : Hp} {te : TE} {ws : WS} {d : Due}
theorem ek_cutT (h : EvK te σ H (tellK ws d)) : EvK (tSl (rSlA K) te tNoPart (tPart (tC (.int 2)))) σ H (prK (d.1, d.2.1)) := by
  have e : cutK [.text d.1, .text d.2.1, .text (ws.sortOf d.2.2), d.2.2.key, .tup (nums (ws.fallsOf d))] none (some 2) = [.text d.1, .text d.2.1] := rfl
  show EvK _ _ _ (.tup [.text d.1, .text d.2.1])
  rw [← e]
  exact ek_sl h eo_non eo_int
end
section
variable {P : Program} {w : World} {K : PySem.W.Frag} {mg : Str → Option Value} {base : Heap} (T : Tp K mg)
include T
def standsOf (bk : List Pg) (day : Int) : List Str := ((bk.filter fun p => decide (p.day ≤ day)).foldl HS.meet HS.start).stands
def fOwes (ks ls : List NestedKey) : Prop := ∃ bk t day a b, ks = argK bk t day ++ [.text a, .text b] ∧ WOk bk t day ∧ a ∈ standsOf bk day ∧ b ∈ standsOf bk day ∧ ls = (toldL (WS.goTo t bk day) bk).filter (pairB a b)
theorem ok_owes : Ok P w K mg base 9 ("owes", none) ["book", "terms", "day", "a", "b"] (spL fOwes) := by
  have G := ok_dues (P := P) (w := w) (base := base) T
  have G2 := ok_home_of (P := P) (w := w) (base := base) T
  refine ok_of T.f_owes c_owes (fun _ _ _ _ _ _ us hl => match us, hl with | [_, _, _, _, _], _ => rfl) (len_L fun ks k ⟨bk, t, day, a, b, e, _⟩ => by rw [e]; rfl) (fun cdv A outer s H vs Q E hr h => ?_)
  obtain ⟨ks, ls, ⟨bk, t, day, a, b, rfl, ok, sa, sb, rfl⟩, hs, q⟩ := h
  have hu := hr.units
  have hr8 : Room 8 _ := hr
  cases hs with
  | cons h1 hs =>
  cases hs with
  | cons h2 hs =>
  cases hs with
  | cons h3 hs =>
  cases hs with
  | cons h4 hs =>
  cases hs with
  | cons h5 hs =>
  cases hs; cases h3; cases h4; cases h5
  refine ⟨_, pss_cons (ps_expr (pe_fn G2 (hr8.mono (by decide)) (by rfl) T.g_home_of (pa_cons (pv 0) (pa_cons (pv 2) (pa_cons (pv 3) pa_nil)))))
    (pss_cons (ps_expr (pe_fn G2 (hr8.mono (by decide)) (by rfl) T.g_home_of (pa_cons (pv 0) (pa_cons (pv 2) (pa_cons (pv 4) pa_nil)))))
    (pss_one (ps_ret (pe_lc (own := [("due", 5)]) (g := gName 5) (te := tVar 5) (tt := tTest (tOp rEqN (tSl (rSlA K) (tVar 5) tNoPart (tPart (tC (.int 2)))) (tTup (tCons (tVar 3) (tCons (tVar 4) tNil)))))
        rfl c_owes.nd (pi_list (pe_fn G hr8 (by rfl) T.g_dues (pa_cons (pv 0) (pa_cons (pv 1) (pa_cons (pv 2) pa_nil))))) (blkOk_by (N := ["book", "terms", "day", "a", "b", "due"]) (sc := defScope s_owes) (by decide +kernel)) (fun _ _ _ _ _ => pg_name (i := 5) c_owes.nd rfl (.inl rfl))
        (fun _ _ _ _ _ => pts_one (pt_cmpR (op_eqN hu) (pe_slice sl_tupA (pv 5) po_none (po_some pe_int)) (pe_tup (pa_cons (pv 3) (pa_cons (pv 4) pa_nil))) (nomark _))) (fun _ _ _ _ _ => pv 5))))), ?_⟩
  have hm : ∀ {H1 : Hp} {ta : TA} {σ : L2.St} {s : Str} {D : Ends}, Same H H1 → EvKs ta σ H1 [.tup (pgs bk), .num day, .text s] → s ∈ standsOf bk day → (∀ H2, Same H1 H2 → D.nx σ H2) → tDrop (tCall spHome [] E0 ta) D σ H1 := fun {H1 ta σ s D} s1 ht hst qq =>
    ht H1 (.rf _) _ fun vs H2 s2 hv => by
      show spHome (vs ++ []) H2 _ _
      rw [List.append_nil]
      exact ⟨bk, day, s, ok.bk.len, hv, hst, fun v H3 s3 => qq H3 (s2.tr s3)⟩
  refine hm (.rf _) (eks_cons (ek_var rfl h1) (eks_cons (ek_num (Evl.ev_var rfl)) (eks_cons (ek_text (Evl.ev_var rfl)) eks_nil))) sa fun H1 s1 => ?_
  dsimp only
  refine hm s1 (eks_cons (ek_var rfl (h1.mono s1)) (eks_cons (ek_num (Evl.ev_var rfl)) (eks_cons (ek_text (Evl.ev_var rfl)) eks_nil))) sb fun H2 s2 => ?_
  dsimp only
  have s12 : Same H H2 := s1.tr s2
  obtain ⟨hp1, hp2⟩ := ok.pages
  refine s_retLK (ks := (toldL (WS.goTo t bk day) bk).filter (pairB a b)) ?_ fun p xs H3 hp s3 e1 e2 => q p xs H3 (s12.no hp) (s12.tr s3) e1 e2
  rw [← List.map_id (List.filter _ _)]
  refine el_lc (v := fun k => k) (src_list (el_call (eks_cons (ek_var rfl (h1.mono s12)) (eks_cons (ek_var rfl (h2.mono s12)) (eks_cons (ek_num (Evl.ev_var rfl)) eks_nil))) ⟨bk, t, day, rfl, ok, rfl⟩)) (by rw [toldL_len]; omega) fun k hk H4 x s4 hx => ?_
  obtain ⟨d, hd, rfl⟩ := mem_toldL (fun d hd => (hp1 d hd).1) hk
  refine turn_name hx rfl ?_ fun _ => ek_var rfl hx
  exact et_T (eb_eqN (ek_cutT (ek_var rfl hx)) (ek_tup (eks_cons (ek_text (Evl.ev_var rfl)) (eks_cons (ek_text (Evl.ev_var rfl)) eks_nil))) (Nat.le_of_ble_eq_true rfl))
end
end CB
/-! CBO6 -/
set_option Elab.async false
set_option autoImplicit false
set_option linter.all false
set_option maxRecDepth 100000
set_option maxHeartbeats 2000000
/-! matters. -/
namespace CB
open PySem PySem.Spec PyProof.Rows L2
open Evl (Ev EvT EvA EvO)
theorem prK_depth (p : Str × Str) : (prK p).depth ≤ 8 := by simp [prK, NestedKey.depth, NestedKey.depthAll]
/-- the counts of these keys, in the order of their first coming -/
structure Cnt (L : List NestedKey) (m : List (NestedKey × V)) : Prop where
  val : ∀ k, valV m k = if k ∈ L then some (.int ((L.countP fun x => decide (x = k) : Nat) : Int)) else none
  nd : (m.map (·.1)).Nodup
  mem : ∀ k, k ∈ m.map (·.1) ↔ k ∈ L
theorem Cnt.nil : Cnt [] [] := ⟨fun k => rfl, List.nodup_nil, fun k => Iff.rfl⟩
theorem keys_putK (m : List (NestedKey × V)) (k : NestedKey) (v : V) : (putK m k v).map (·.1) = if k ∈ m.map (·.1) then m.map (·.1) else m.map (·.1) ++ [k] := akeys_aput m k v
theorem Cnt.step {L : List NestedKey} {m : List (NestedKey × V)} (c : Cnt L m) (k : NestedKey) : Cnt (L ++ [k]) (putK m k (.int ((L.countP fun x => decide (x = k) : Nat) + 1 : Int))) where
  val := fun j => by
    rw [valV_put, c.val]
    by_cases e : j = k
    · subst e
      rw [if_pos rfl, if_pos (List.mem_append_right _ (List.mem_singleton.mpr rfl)), List.countP_append, List.countP_cons, List.countP_nil]
      simp
    · rw [if_neg e, List.countP_append, List.countP_cons, List.countP_nil]
      have e2 : ¬ k = j := fun z => e z.symm
      by_cases h : j ∈ L
      · rw [if_pos h, if_pos (List.mem_append_left _ h)]
        simp [e2]
      · rw [if_neg h, if_neg]
        rw [List.mem_append, List.mem_singleton]
        exact fun z => z.elim h e
  nd := by
    rw [keys_putK]
    split
    · exact c.nd
    · rename_i h
      rw [List.nodup_append]
      exact ⟨c.nd, by simp, fun a ha b hb => by rw [List.mem_singleton] at hb; subst hb; intro e; subst e; exact h ha⟩
  mem := fun j => by
    rw [keys_putK, List.mem_append, List.mem_singleton]
    split
    · rename_i h
      rw [c.mem] at h ⊢
      exact ⟨.inl, fun z => z.elim id fun e => e ▸ h⟩
    · rw [List.mem_append, List.mem_singleton, c.mem]
theorem Cnt.get {L : List NestedKey} {m : List (NestedKey × V)} (c : Cnt L m) (k : NestedKey) : (valV m k).getD (.int 0) = .int ((L.countP fun x => decide (x = k) : Nat) : Int) := by
  rw [c.val]
  split
  · rfl
  · rename_i h
    have : (L.countP fun x => decide (x = k)) = 0 := List.countP_eq_zero.mpr fun x hx => by
      simp only [decide_eq_true_eq]
      exact fun e => h (e ▸ hx)
    rw [this]; rfl
def addC (L : List NestedKey) : NestedKey → NestedKey
  | .tup l => .tup (l ++ [.num ((L.countP fun x => decide (x = .tup l) : Nat) : Int)])
  | k => k
def pairsL (ws : WS) (bk : List Pg) : List NestedKey := (toldL ws bk).map pairK
theorem pairsL_prK {ws : WS} {bk : List Pg} (hb : ∀ d ∈ akeys ws.falls, d.2.2 ∈ bk) {k : NestedKey} (h : k ∈ pairsL ws bk) : ∃ p, k = prK p := by
  obtain ⟨r, hr, rfl⟩ := List.mem_map.mp h
  obtain ⟨d, _, rfl⟩ := mem_toldL hb hr
  exact ⟨(d.1, d.2.1), rfl⟩
section
variable {P : Program} {w : World} {K : PySem.W.Frag} {mg : Str → Option Value} {base : Heap} (T : Tp K mg)
include T
def spMatters : Sp := fun vs H Q _ => ∃ bk t day, KAll H vs (argK bk t day) ∧ WOk bk t day ∧ ∀ p xs H' (us : List NestedKey), H p = none → Same H H' → H' p = some (.lst xs) → us.Nodup → (∀ k, k ∈ us ↔ k ∈ pairsL (WS.goTo t bk day) bk) → KAll H' xs ((us.mergeSort leN).map (addC (pairsL (WS.goTo t bk day) bk))) → Q (.ref p) H'
theorem ok_matters : Ok P w K mg base 9 ("matters", none) ["book", "terms", "day"] spMatters := by
  have G := ok_dues (P := P) (w := w) (base := base) T
  refine ok_of T.f_matters c_matters (fun _ _ _ _ _ _ us hl => match us, hl with | [_, _, _], _ => rfl) (fun vs H Q E ⟨bk, t, day, e, _⟩ => by rw [e.length]; rfl) (fun cdv A outer s H vs Q E hr h => ?_)
  obtain ⟨bk, t, day, hs, ok, q⟩ := h
  have hu := hr.units
  have hr8 : Room 8 _ := hr
  cases hs with
  | cons h1 hs =>
  cases hs with
  | cons h2 hs =>
  cases hs with
  | cons h3 hs =>
  cases hs; cases h3
  refine ⟨_, pss_cons (ps_set (i := 3) c_matters.nd rfl (.inr rfl) pe_nnew)
    (pss_cons (ps_for .never rfl (pi_list (pe_fn G hr8 (by rfl) T.g_dues (pa_cons (pv 0) (pa_cons (pv 1) (pa_cons (pv 2) pa_nil))))) (pg_name (i := 4) c_matters.nd rfl (.inl rfl))
      (pss_one (ps_nput hu (pv 3) (pe_slice sl_tupA (pv 4) po_none (po_some pe_int)) (pe_op op_add (pe_nget2 hu (pv 3) (pe_slice sl_tupA (pv 4) po_none (po_some pe_int)) pe_int ⟨rfl, rfl, rfl, rfl⟩) pe_int) rfl)))
    (pss_one (ps_ret (pe_lc (own := [("pair", 5)]) (g := gName 5) (te := tOp (rCatA K) (tVar 5) (tTup (tCons (tNGet P w (tVar 3) (tVar 5)) tNil)))
        rfl c_matters.nd (pi_list (pe_callB (cr_sortDN rfl hu) (by rfl) T.b_sorted PyProof.Rows.boot_sorted (pa_cons (pv 3) pa_nil))) (blkOk_by (N := ["book", "terms", "day", "found", "due", "pair"]) (sc := defScope s_matters) (by decide +kernel)) (fun _ _ _ _ _ => pg_name (i := 5) c_matters.nd rfl (.inl rfl))
        (fun _ _ _ _ _ => pts_nil) (fun _ _ _ _ _ => pe_op op_catA (pv 5) (pe_tup (pa_cons (pe_nget hu (pv 3) (pv 5) (fun _ _ => rfl)) pa_nil))))))), ?_⟩
  obtain ⟨hp1, hp2⟩ := ok.pages
  have hpg : ∀ d ∈ akeys (WS.goTo t bk day).falls, d.2.2 ∈ bk := fun d hd => (hp1 d hd).1
  have hlen := toldL_len (WS.goTo t bk day) bk
  have ell : ∀ {σ : L2.St} {H1 : Hp}, σ[0]? = some (some _) → σ[1]? = some (some _) → σ[2]? = some (some (.int day)) → Same H H1 → EvLK (tCall (spL fDues) [] E0 (tCons (tVar 0) (tCons (tVar 1) (tCons (tVar 2) tNil)))) σ H1 (toldL (WS.goTo t bk day) bk) := fun {σ H1} z0 z1 z2 s1 =>
    el_call (eks_cons (ek_var z0 (h1.mono s1)) (eks_cons (ek_var z1 (h2.mono s1)) (eks_cons (ek_num (Evl.ev_var z2)) eks_nil))) ⟨bk, t, day, rfl, ok, rfl⟩
  generalize WS.goTo t bk day = ws at *
  intro fd H1 hfd k1 dn1
  have s1 : Same H H1 := fun b u e => by rw [k1 b (ne_of_none e hfd)]; exact e
  refine ell rfl rfl rfl s1 H1 (.rf _) _ fun lp lxs H2 hlp s2 hl2 hk2 => ?_
  have lne : lp ≠ fd := by
    obtain ⟨o, hd, _⟩ := dn1
    exact fun z => by rw [z, hd] at hlp; cases hlp
  have ll : lxs.length = (toldL ws bk).length := hk2.length
  refine ⟨lp, rfl, ⟨lxs, .of hl2⟩, for_list (K := K) (a := lp) (xs := lxs) (fun i σ' H' => (σ'.length = 6 ∧ σ'[3]? = some (some (.ref fd))) ∧ H' lp = some (.lst lxs) ∧ Same H H' ∧ TupLe H2 H' ∧ ∃ m, DN P w H' fd m ∧ Cnt (((toldL ws bk).take i).map pairK) m ∧ m.length ≤ i)
    ⟨⟨rfl, rfl⟩, hl2, s1.tr s2, .refl _, [], dn1.same s2, Cnt.nil, Nat.le_refl _⟩ (fun i σ' H' _ h => .of h.2.1) ?_ ?_⟩
  · rintro i v σ' H3 hi ⟨⟨sh0, sh1⟩, hl3, s3, t3, m, dnm, cm, lm⟩
    obtain ⟨k, hk', hv⟩ := hk2.getV hi
    have ht : (toldL ws bk).take (i + 1) = (toldL ws bk).take i ++ [k] := by rw [List.take_add_one, hk']; simp
    obtain ⟨d, hd, rfl⟩ := mem_toldL hpg (List.mem_of_getElem? hk')
    have li : i < ws.falls.length := by rw [← hlen]; exact (List.getElem?_eq_some_iff.mp hk').1
    obtain ⟨σ0, σ1, σ2, σ3, σ4, σ5, rfl⟩ : ∃ a b c d e f, σ' = [a, b, c, d, e, f] := by
      match σ', sh0 with
      | [a, b, c, d, e, f], _ => exact ⟨a, b, c, d, e, f, rfl⟩
    cases sh1
    have hv3 := KAt.keep t3 _ _ hv
    have eg : Ev (tNGet2 P w (tVar 3) (tSl (rSlA K) (tVar 4) tNoPart (tPart (tC (.int 2)))) (tC (.int 0))) [σ0, σ1, σ2, some (.ref fd), some v, σ5] H3 (.int (((((toldL ws bk).take i).map pairK).countP fun x => decide (x = prK (d.1, d.2.1)) : Nat) : Int)) := fun H4 e4 Q4 q4 => by
      refine ⟨_, rfl, fd, rfl, ⟨m, dnm.same e4⟩, (ek_cutT (ek_var rfl hv3)) H4 e4 _ fun u H5 s5 hu5 => ⟨m, _, (dnm.same e4).same s5, hu5, prK_depth (d.1, d.2.1), ?_⟩⟩
      have := cm.get (prK (d.1, d.2.1))
      show Q4 ((valV m (prK (d.1, d.2.1))).getD (.int 0)) H5
      rw [this]
      exact q4 H5 s5
    refine (Evl.ev_op eg (Evl.ev_c (v := .int 1)) Evl.rv_I0) H3 (Evl.Ex.refl _) _ fun H4 s4 => ⟨_, rfl, (ek_cutT (ek_var rfl (hv3.mono s4))) H4 (.rf _) _ fun u H5 s5 hu5 => ⟨fd, m, _, rfl, (dnm.same s4).same s5, hu5, prK_depth (d.1, d.2.1), smallN (by omega), fun H6 k6 dn6 => ?_⟩⟩
    have s45 : Same H3 H5 := Same.tr s4 s5
    have nt : ∀ ys, H5 fd ≠ some (.tup ys) := ((dnm.same s4).same s5).ntup
    have t56 : TupLe H5 H6 := fun b ys e => by
      rw [k6 b (fun z => nt ys (z ▸ e))]; exact e
    refine ⟨⟨rfl, rfl⟩, ?_, fun b u e => ?_, (t3.trans (.of_same s45)).trans t56, _, dn6, ?_, ?_⟩
    · rw [k6 lp lne]; exact s45 _ _ hl3
    · rw [k6 b (ne_of_none e hfd)]; exact s45 _ _ (s3 _ _ e)
    · rw [ht, List.map_append]
      exact cm.step (prK (d.1, d.2.1))
    · have := length_putK m (NestedKey.tup [.text d.1, .text d.2.1]) (V.int ((((toldL ws bk).take i).map pairK).countP fun x => decide (x = prK (d.1, d.2.1))))
      exact Nat.le_trans (length_putK _ _ _) (Nat.succ_le_succ lm)
  · rintro σ' H3 ⟨⟨sh0, sh1⟩, hl3, s3, t3, m, dnm, cm, lm⟩
    rw [ll, List.take_length] at cm
    have hpr : ∀ k ∈ m.map (·.1), ∃ p, k = prK p := fun k hk => pairsL_prK hpg ((cm.mem k).mp hk)
    have hsm : SortN (m.map (·.1)) := prK_sort hpr (by rw [List.length_map]; exact Nat.le_trans lm (by rw [ll, hlen]; exact Nat.le_trans hp2 (by decide)))
    have es : EvLK (tCB (rSortDN P w) (tCons (tVar 3) tNil)) σ' H3 ((m.map (·.1)).mergeSort leN) := fun H4 e4 Q4 q4 => ⟨_, sh1, fd, m, rfl, dnm.same e4, hsm, fun p xs' hp hk => q4 p xs' _ hp (.up hp) upd_same (hk.mono (.up hp))⟩
    dsimp only
    refine s_retLK (ks := ((m.map (·.1)).mergeSort leN).map (addC (pairsL ws bk))) ?_ fun p xs H4 hp s4 e1 e2 => q p xs H4 (m.map (·.1)) (s3.no hp) (s3.tr s4) e1 cm.nd cm.mem e2
    have ef : ((m.map (·.1)).mergeSort leN) = ((m.map (·.1)).mergeSort leN).filter fun _ => true := (filt_true _).symm
    rw [ef]
    refine el_lc (src_list es) (by rw [List.length_mergeSort, List.length_map]; omega) fun k hk H4 x s4 hx => ?_
    have hk2 := (List.mergeSort_perm _ _).mem_iff.mp hk
    obtain ⟨⟨a, b⟩, rfl⟩ := hpr k hk2
    have hkL := (cm.mem _).mp hk2
    have hw : wipe ((wipe σ' [5]).set 5 (some x)) [5] = wipe σ' [5] := by
      obtain ⟨σ0, σ1, σ2, σ3, σ4, σ5, rfl⟩ : ∃ a b c d e f, σ' = [a, b, c, d, e, f] := by
        match σ', sh0 with
        | [a, b, c, d, e, f], _ => exact ⟨a, b, c, d, e, f, rfl⟩
      rfl
    have z3 : ((wipe σ' [5]).set 5 (some x))[3]? = some (some (.ref fd)) := by
      obtain ⟨σ0, σ1, σ2, σ3, σ4, σ5, rfl⟩ : ∃ a b c d e f, σ' = [a, b, c, d, e, f] := by
        match σ', sh0 with
        | [a, b, c, d, e, f], _ => exact ⟨a, b, c, d, e, f, rfl⟩
      exact sh1
    have z5 : ((wipe σ' [5]).set 5 (some x))[5]? = some (some x) := by
      obtain ⟨σ0, σ1, σ2, σ3, σ4, σ5, rfl⟩ : ∃ a b c d e f, σ' = [a, b, c, d, e, f] := by
        match σ', sh0 with
        | [a, b, c, d, e, f], _ => exact ⟨a, b, c, d, e, f, rfl⟩
      rfl
    refine turn_name hx hw et_yes fun _ => ?_
    refine ek_catA (ks := [.text a, .text b]) (ek_var z5 hx) (ek_tup (eks_cons (ek_nget (ks := [.text a, .text b]) (Evl.ev_var z3) (ek_var z5 hx) (dnm.same s4) (prK_depth (a, b)) (by
      have := cm.val (prK (a, b))
      rw [if_pos hkL] at this
      exact this) (.num _)) eks_nil)) (Nat.le_of_ble_eq_true rfl)
end
end CB
/-! CBN5 -/
set_option Elab.async false
set_option autoImplicit false
set_option linter.all false
/-! Plain: how long an answer's list is. -/
namespace CB
open PySem
theorem part_answers (a b : Str) : ∀ (L : List Due) (ws : WS), (L.foldl (WS.partStep a b) ws).answers = ws.answers
  | [], _ => rfl
  | d :: L, ws => by
    rw [List.foldl_cons, part_answers a b L]
    unfold WS.partStep
    split <;> rfl
theorem lay_answers (ws : WS) (d : Due) (f : List Int) : (ws.lay d f).answers = ws.answers := by
  unfold WS.lay
  split
  · rfl
  · split <;> rfl
theorem join_answers (a b : Str) : ∀ (L : List Due) (ws : WS), (L.foldl (WS.joinStep a b) ws).answers = ws.answers
  | [], _ => rfl
  | d :: L, ws => by
    rw [List.foldl_cons, join_answers a b L]
    unfold WS.joinStep
    split
    · split
      · rfl
      · rw [lay_answers]
    · rfl
theorem go_answers (w : WS) (p : Pg) (a b : Str) : ∀ e ∈ (w.go p a b).1.answers, e ∈ w.answers ∨ e.2.length ≤ w.falls.length := by
  unfold WS.go
  split
  · exact fun e h => .inl h
  · intro e h
    have h' : e ∈ w.answers ++ [(p, w.paidOf (w.goSort p) a b)] := h
    rcases List.mem_append.mp h' with h' | h'
    · exact .inl h'
    · rw [List.mem_singleton.mp h']
      refine .inr ?_
      have := List.length_filter_le (w.paysB (w.goSort p) a b) (akeys w.falls)
      rw [keys_len] at this
      exact this
theorem mark_answers (lost : List Pg) (w : WS) (p : Pg) : ∀ e ∈ (w.mark lost p).answers, e ∈ w.answers ∨ e.2.length ≤ w.falls.length := by
  show ∀ e ∈ (w.put lost p).1.answers, _
  unfold WS.put
  split
  · exact fun e h => .inl h
  · cases p with
    | card d a b => exact go_answers w _ a b
    | visit d a b => exact go_answers w _ a b
    | part d a b h => exact fun e he => .inl (by rw [← part_answers a b (akeys w.falls) w]; exact he)
    | join d a b => exact fun e he => .inl (by rw [← join_answers a b (akeys w.falls) w]; exact he)
    | house d a h => exact fun e h => .inl h
    | home d a h => exact fun e h => .inl h
    | mourn d a m => exact fun e h => .inl h
    | ahead d a b => exact fun e h => .inl h
def AL (B : Nat) (w : WS) : Prop := ∀ e ∈ w.answers, e.2.length ≤ B
theorem eat_al {pages lost : List Pg} (hn : pages.Nodup) (hl : lost = idleOf pages) (hu : ∀ p ∈ pages, p.unlike) (day : Int) : ∀ (rest pre : List Pg) (w : WS), pages = pre ++ rest → MI pre (pre.foldl HS.meet HS.start) w → w.falls.length ≤ capN pre → AL (capN pages) w → AL (capN pages) (WS.eat lost day rest w).1
  | [], pre, w, e, m, c, al => al
  | p :: r, pre, w, e, m, c, al => by
    unfold WS.eat
    by_cases h : p.day = day
    · rw [if_pos h]
      have hp : p ∉ pre := by
        rw [e] at hn
        exact fun q => (List.nodup_append.mp hn).2.2 p q p List.mem_cons_self rfl
      have hl2 : p ∈ lost ↔ (pre.foldl HS.meet HS.start).can p = false := by
        rw [hl, e]; exact lost_iff (by rw [← e]; exact hn)
      have hup := hu p (by rw [e]; exact List.mem_append_right _ List.mem_cons_self)
      have m2 := m.mark hp hl2 hup
      have c2 := mark_len m hl2 hup c
      have ef : (pre ++ [p]).foldl HS.meet HS.start = (pre.foldl HS.meet HS.start).meet p := by rw [List.foldl_append]; rfl
      exact eat_al hn hl hu day r (pre ++ [p]) (w.mark lost p) (by rw [e, List.append_assoc]; rfl) (by rw [ef]; exact m2) c2 fun x hx => (mark_answers lost w p x hx).elim (al x) fun z => Nat.le_trans z (Nat.le_trans c (by rw [e]; exact capN_pre _ _))
    · rw [if_neg h]
      exact al
theorem run_al {pages lost : List Pg} (hn : pages.Nodup) (hl : lost = idleOf pages) (hu : ∀ p ∈ pages, p.unlike) (t : Int × Int) : ∀ (n : Nat) (first : Int) (w : WS) (rest pre : List Pg), pages = pre ++ rest →
    MI pre (pre.foldl HS.meet HS.start) w → w.falls.length ≤ capN pre → AL (capN pages) w → AL (capN pages) (WS.run t lost first n (w, rest)).1
  | 0, first, w, rest, pre, e, m, c, al => al
  | n + 1, first, w, rest, pre, e, m, c, al => by
    obtain ⟨pre', i1, i2, i3⟩ := eat_len hn hl hu first rest pre w e m c
    have a2 := eat_al hn hl hu first rest pre w e m c al
    exact run_al hn hl hu t n (first + 1) ((WS.eat lost first rest w).1.fall t first) (WS.eat lost first rest w).2 pre' i1 (i2.fall t first) (by rw [fall_len]; exact i3) (fun x hx => a2 x (by rw [← (fall_facts t first (WS.eat lost first rest w).1).1.answers]; exact hx))
theorem goTo_al {book : List Pg} (hn : book.Nodup) (hu : ∀ p ∈ book, p.unlike) (t : Int × Int) (last : Int) : AL (capN (book.filter fun p => decide (p.day ≤ last))) (WS.goTo t book last) := by
  unfold WS.goTo
  cases q : book.filter fun p => decide (p.day ≤ last) with
  | nil => exact fun e h => (nomatch h)
  | cons p r =>
    have hn' : (p :: r).Nodup := by rw [← q]; exact hn.filter _
    have hmem : ∀ x ∈ p :: r, x ∈ book := fun x hx => by
      rw [← q] at hx
      exact (List.mem_filter.mp hx).1
    exact run_al hn' rfl (fun x hx => hu x (hmem x hx)) t _ p.day WS.start (p :: r) [] rfl MI.start (Nat.zero_le _) (fun e h => (nomatch h))
end CB
/-! CBO7 -/
set_option Elab.async false
set_option autoImplicit false
set_option linter.all false
set_option maxRecDepth 100000
set_option maxHeartbeats 2000000
/-! answered. -/
namespace CB
open PySem PySem.Spec PyProof.Rows L2
open PySem.W (alike alikeAll)
open Evl (Ev EvT EvA EvO)
def rowA (bk : List Pg) (d : Due) : NestedKey := .tup [.num (bk.idxOf d.2.2 : Nat), dueKey d]
def sndK : NestedKey → NestedKey
  | .tup [_, k] => k
  | k => k
def paidL (bk : List Pg) (ds : List Due) : List NestedKey := ((ds.map (rowA bk)).mergeSort leN).map sndK
def ansK (bk : List Pg) (e : Pg × List Due) : NestedKey := .tup [e.1.key, .tup (paidL bk e.2)]
theorem rowA_sort (bk : List Pg) {ds : List Due} (hg : ∀ d ∈ ds, d.2.2.isGo = true) (hl : ds.length ≤ sizeLine) : SortN (ds.map (rowA bk)) where
  like := fun k hk k' hk' => by
    obtain ⟨p, hp, rfl⟩ := List.mem_map.mp hk
    obtain ⟨q, hq, rfl⟩ := List.mem_map.mp hk'
    have h1 := go_items (hg p hp)
    have h2 := go_items (hg q hq)
    simp [rowA, dueKey, Pg.key, h1, h2, NestedKey.data, NestedKey.datas, alike, alikeAll]
  tup := fun k hk => by
    obtain ⟨p, _, rfl⟩ := List.mem_map.mp hk
    exact ⟨_, _, rfl⟩
  depth := depthAll_le fun k hk => by
    obtain ⟨p, _, rfl⟩ := List.mem_map.mp hk
    have := dueKey_depth p
    simp [rowA, NestedKey.depth, NestedKey.depthAll]
    omega
  len := by rw [List.length_map]; exact hl
theorem mem_paidRows {bk : List Pg} {ds : List Due} {k : NestedKey} (h : k ∈ (ds.map (rowA bk)).mergeSort leN) : ∃ d ∈ ds, k = rowA bk d := by
  obtain ⟨d, hd, e⟩ := List.mem_map.mp ((List.mergeSort_perm _ _).mem_iff.mp h)
  exact ⟨d, hd, e.symm⟩
theorem Plc.kp {P : Program} {w : World} {H H' : Hp} {d : Addr} {bk : List Pg} (pl : Plc P w H d bk) (t : TupLe H H') (k : ∀ u, H d = some u → H' d = some u) : Plc P w H' d bk := by
  obtain ⟨kvs, ⟨o, e, x⟩, r⟩ := pl
  exact ⟨kvs, ⟨o, k _ e, x.keep t⟩, r⟩
theorem Plc.obj {P : Program} {w : World} {H : Hp} {d : Addr} {bk : List Pg} (pl : Plc P w H d bk) : ∃ o, H d = some (exO d o) := by
  obtain ⟨kvs, ⟨o, e, x⟩, r⟩ := pl
  exact ⟨o, e⟩
structure AOk (ws : WS) (bk : List Pg) : Prop where
  page : ∀ e ∈ ws.answers, ∀ d ∈ e.2, d.2.2 ∈ bk ∧ d.2.2.isGo = true
  len : ∀ e ∈ ws.answers, e.2.length ≤ 2000
theorem WOk.ans {bk : List Pg} {t : Int × Int} {day : Int} (ok : WOk bk t day) : AOk (WS.goTo t bk day) bk := by
  obtain ⟨s, _, m⟩ := goTo_facts ok.bk.nodup ok.bk.rise ok.bk.unl t day
  refine ⟨fun e he d hd => ⟨?_, m.goes _ (m.ans e he d hd).2⟩, fun e he => ?_⟩
  · have h1 : d.2.2 ∈ (WS.goTo t bk day).marks.map (·.1) := List.mem_map.mpr ⟨_, (m.ans e he d hd).2, rfl⟩
    rw [m.marks] at h1
    exact (List.mem_filter.mp h1).1
  · exact Nat.le_trans (goTo_al ok.bk.nodup ok.bk.unl t day e he) (ok.bk.filter _).cap
section
variable {P : Program} {w : World} {K : PySem.W.Frag} {mg : Str → Option Value} {base : Heap} (T : Tp K mg)
include T
def fAns (ks ls : List NestedKey) : Prop := ∃ bk t day, ks = argK bk t day ∧ WOk bk t day ∧ ls = (WS.goTo t bk day).answers.map (ansK bk)
theorem ok_answered : Ok P w K mg base 8 ("answered", none) ["book", "terms", "day"] (spL fAns) := by
  have G := ok_walked (P := P) (w := w) (base := base) T
  have G2 := ok_places (P := P) (w := w) (base := base) T
  refine ok_of T.f_answered c_answered (fun _ _ _ _ _ _ us hl => match us, hl with | [_, _, _], _ => rfl) (len_L fun ks k ⟨bk, t, day, e, _⟩ => by rw [e]; rfl) (fun cdv A outer s H vs Q E hr h => ?_)
  obtain ⟨ks, ls, ⟨bk, t, day, rfl, ok, rfl⟩, hs, q⟩ := h
  have hu := hr.units
  have hr7 : Room 7 _ := hr
  cases hs with
  | cons h1 hs =>
  cases hs with
  | cons h2 hs =>
  cases hs with
  | cons h3 hs =>
  cases hs
  refine ⟨_, pss_cons (ps_set (i := 3) c_answered.nd rfl (.inl rfl) (pe_fn G hr7 (by rfl) T.g_walked (pa_cons (pv 0) (pa_cons (pv 1) (pa_cons (pv 2) pa_nil)))))
    (pss_cons (ps_set (i := 4) c_answered.nd rfl (.inr rfl) (pe_mt0 G2 (hr7.mono (by decide)) (pv 3) T.cl_Walk T.m_Walk_places))
    (pss_cons (ps_set (i := 5) c_answered.nd rfl (.inl rfl) (pe_lst pa_nil))
    (pss_cons (ps_for .never rfl (pi_list (pe_fld (pv 3) rfl)) (pg_tup rfl (pgs_cons (pg_name (i := 6) c_answered.nd rfl (.inl rfl)) (pgs_cons (pg_name (i := 7) c_answered.nd rfl (.inl rfl)) pgs_nil)))
      (pss_cons (ps_set (i := 8) c_answered.nd rfl (.inl rfl) (pe_callB (cr_sortL hu) (by rfl) T.b_sorted PyProof.Rows.boot_sorted (pa_cons (pe_lc (own := [("due", 9)]) (g := gName 9) (te := tTup (tCons (tNGet P w (tVar 4) (tOp (rIxT K) (tVar 9) (tC (.int 2)))) (tCons (tVar 9) tNil)))
          rfl c_answered.nd (pi_list (pv 7)) (blkOk_by (N := ["book", "terms", "day", "walk", "at", "found", "page", "paid", "rows", "due", "k"]) (sc := defScope s_answered) (by decide +kernel)) (fun _ _ _ _ _ => pg_name (i := 9) c_answered.nd rfl (.inl rfl))
          (fun _ _ _ _ _ => pts_nil) (fun _ _ _ _ _ => pe_tup (pa_cons (pe_nget hu (pv 4) (pe_ix ix_tup (pv 9) pe_int (fun _ _ => rfl)) (fun _ _ => rfl)) (pa_cons (pv 9) pa_nil)))) pa_nil)))
      (pss_one (ps_expr (pe_bm PySem.F.plainAttrs_list PySem.F.slot_list_append PySem.F.type_list_append mt_append (pv 5) (pa_cons (pe_tup (pa_cons (pv 6) (pa_cons (pe_callTy call_tuple_of (by rfl) T.b_tuple PyProof.Rows.boot_tuple (pa_cons (pe_lc (own := [("due", 9), ("k", 10)]) (g := gTup K 2 (gCons (gName 10) (gCons (gName 9) gNil))) (te := tVar 9)
          rfl c_answered.nd (pi_list (pv 8)) (blkOk_by (N := ["book", "terms", "day", "walk", "at", "found", "page", "paid", "rows", "due", "k"]) (sc := defScope s_answered) (by decide +kernel)) (fun _ _ _ _ _ => pg_tup rfl (pgs_cons (pg_name (i := 10) c_answered.nd rfl (.inl rfl)) (pgs_cons (pg_name (i := 9) c_answered.nd rfl (.inl rfl)) pgs_nil)))
          (fun _ _ _ _ _ => pts_nil) (fun _ _ _ _ _ => pv 9)) pa_nil)) pa_nil))) pa_nil))))))
    (pss_one (ps_ret (pv 5)))))), ?_⟩
  refine sw_walked (eks_cons (ek_var rfl h1) (eks_cons (ek_var rfl h2) (eks_cons (ek_var rfl h3) eks_nil))) ok fun a H1 n ls s1 x1 fr => ?_
  have aok := ok.ans
  have hbn := ok.bk.nodup
  have hbl := ok.bk.len
  generalize WS.goTo t bk day = ws at *
  dsimp only
  refine s_asgPl x1 (Evl.ev_var rfl) hbn hbl fun pd H2 s2 pl => ?_
  dsimp only
  refine s_asgLK (ks := []) (el_lstK eks_nil) fun fp fxs H3 hfp s3 hf3 hfk3 => ?_
  cases hfk3
  dsimp only
  have s13 : Same H1 H3 := s2.tr s3
  have s03 : Same H H3 := s1.tr s13
  have x3 := x1.same s13
  have pl3 := pl.same s3
  have hfpH : H fp = none := s1.no (s2.no hfp)
  have fpn : fp ∉ a.fp := (x1.same s2).new hfp
  obtain ⟨axs, ha1, ha2⟩ := x3.ans
  have la : axs.length = ws.answers.length := Paired.length ha2
  have hpd : pd ≠ fp := by
    obtain ⟨o, e⟩ := pl3.obj
    exact fun z => by rw [z, hf3] at e; cases e
  refine Evl.s_forL (x3.e9 T (Evl.ev_var rfl)) (.of ha1) (fun i σ' H' => (σ'.length = 11 ∧ σ'[4]? = some (some (.ref pd)) ∧ σ'[5]? = some (some (.ref fp))) ∧ Same H H' ∧ (∀ b u, b ≠ fp → H3 b = some u → H' b = some u) ∧ ∃ acc, H' fp = some (.lst acc) ∧ KAll H' acc ((ws.answers.take i).map (ansK bk)))
    (fun H4 s4 => ⟨⟨rfl, rfl, rfl⟩, s03.tr s4, fun b u _ e => s4 _ _ e, [], s4 _ _ hf3, .nil⟩) (fun i σ' H' _ h => .of (h.2.2.1 _ _ (fun z => fpn (z ▸ a.mem.2.2.2.2.2.2.2.1)) ha1)) ?_ ?_
  · rintro i v σ' H5 hi ⟨⟨sh0, sh1, sh2⟩, s5, k5, acc, hacc, hka⟩
    obtain ⟨e, he, z⟩ := ansAt.list ha2 hi
    have hem := List.mem_of_getElem? he
    have ht : ws.answers.take (i + 1) = ws.answers.take i ++ [e] := by rw [List.take_add_one, he]; simp
    have t35 : TupLe H3 H5 := fun b ys hy => k5 b _ (fun z => by rw [z, hf3] at hy; cases hy) hy
    obtain ⟨tp, v0, l, zs, rfl, z1, z2, z3, z4, z5⟩ := z.keep t35 fun b hb u hu => k5 b u (fun z => fpn (z ▸ a.mem.2.2.2.2.2.2.2.2.2 b hb)) hu
    have pl5 := pl3.kp t35 fun u hu => k5 _ u hpd hu
    obtain ⟨σ0, σ1, σ2, σ3, σ4, σ5, σ6, σ7, σ8, σ9, σ10, rfl⟩ : ∃ a b c d e f g h i j k, σ' = [a, b, c, d, e, f, g, h, i, j, k] := by
      match σ', sh0 with
      | [a, b, c, d, e, f, g, h, i, j, k], _ => exact ⟨a, b, c, d, e, f, g, h, i, j, k, rfl⟩
    cases sh1
    cases sh2
    refine ⟨tp, _, rfl, .of z1, rfl, _, _, rfl, _, _, rfl, rfl, ?_⟩
    dsimp only
    have hle := aok.len e hem
    have hpg := aok.page e hem
    refine s_asgLK (ks := (e.2.map (rowA bk)).mergeSort leN) (el_sorted (ks := e.2.map (rowA bk)) ?_ (rowA_sort bk (fun d hd => (hpg d hd).2) (Nat.le_trans hle (by decide)))) fun rp rxs H6 hrp s6 hr6 hrk6 => ?_
    · have ee : e.2.map (rowA bk) = ((dueKs e.2).filter fun _ => true).map (ofDueK (rowA bk)) := by rw [filt_true, dueKs_map]
      rw [ee]
      refine el_lc (src_at (Evl.ev_var rfl) (.of z4) z5) (by unfold dueKs; rw [List.length_map]; omega) fun k hk H7 y s7 hy => ?_
      obtain ⟨d, hdm, rfl⟩ := mem_dueKs hk
      refine turn_name hy rfl et_yes fun _ => ?_
      rw [ofDueK_key]
      exact ek_tup (eks_cons (ek_plc (Evl.ev_var rfl) (ek_ix (ek_var rfl hy) Evl.ev_c (d2 d)) (pl5.same s7) (hpg d hdm).1) (eks_cons (ek_var rfl hy) eks_nil))
    dsimp only
    have hacc6 := s6 _ _ hacc
    have lacc : acc.length ≤ 2000 := by
      have h1 := hka.length
      have h2 := x1.bnd.2.2
      have h3 := x1.le
      rw [List.length_map, List.length_take] at h1
      omega
    have efl : ((e.2.map (rowA bk)).mergeSort leN).map sndK = (((e.2.map (rowA bk)).mergeSort leN).filter fun _ => true).map sndK := by rw [filt_true]
    refine s_app (k := ansK bk e) (Evl.ev_var rfl) (eks_cons (ek_tup (eks_cons (ek_var rfl (z2.mono s6)) (eks_cons (ek_tupOf (ks := paidL bk e.2) ?_) eks_nil))) eks_nil) hacc6 lacc fun u H7 W7 hu7 => ?_
    · unfold paidL
      rw [efl]
      refine el_lc (src_at (Evl.ev_var rfl) (.of hr6) hrk6) (by rw [List.length_mergeSort, List.length_map]; omega) fun k hk H8 y s8 hy => ?_
      obtain ⟨d, hdm, rfl⟩ := mem_paidRows hk
      obtain ⟨tq, qxs, rfl, g1, g2⟩ := hy.tupRef
      cases g2 with
      | cons y1 g2 =>
      cases g2 with
      | cons y2 g2 =>
      cases g2
      intro Q1 q1
      refine ⟨tq, _, rfl, .of g1, rfl, _, _, rfl, _, _, rfl, rfl, q1 _ H8 (.rf _) rfl et_yes fun _ => ?_⟩
      exact ek_var rfl y2
    · have t67 : TupLe H6 H7 := W7.tup fun ys ex => by rw [hacc6] at ex; cases ex
      refine ⟨⟨rfl, rfl, rfl⟩, fun b o ex => W7.keep b o (ne_of_none ex hfpH) (s6 _ _ (s5 _ _ ex)), fun b u hb ex => W7.keep b u hb (s6 _ _ (k5 b u hb ex)), _, W7.at_, ?_⟩
      rw [ht, List.map_append]
      exact (KAll.keep t67 _ _ (hka.mono s6)).append (.cons hu7 .nil)
  · rintro σ' H5 ⟨⟨sh0, sh1, sh2⟩, s5, k5, acc, hacc, hka⟩
    rw [la, List.take_length] at hka
    exact Evl.s_ret (Evl.ev_var sh2) fun H6 s6 => q fp acc H6 hfpH (s5.tr s6) (s6 _ _ hacc) (hka.mono s6)
end
end CB
/-! CBP1 -/
set_option Elab.async false
set_option autoImplicit false
set_option linter.all false
set_option maxRecDepth 100000
set_option maxHeartbeats 2000000
/-! The feed, a draw. -/
namespace CB
open PySem PySem.Spec PyProof.Rows L2
open Evl (Ev EvT EvA EvO)
def fkv (c : Addr) (a l t : Int) : List (L2.Key × V) := [(Sum.inr "cells", .ref c), (Sum.inr "at", .int a), (Sum.inr "left", .int l), (Sum.inr "turn", .int t)]
/-- at f stands a feed that may be asked m times more -/
def Feed (H : Hp) (f c : Addr) (m : Nat) : Prop := ∃ (ns : List Int) (a l t : Int), H f = some (.dK (fkv c a l t)) ∧ H c = some (.lst (ns.map V.int)) ∧ 0 ≤ a ∧ 0 ≤ t ∧ t + (m : Int) ≤ 100000
theorem Feed.same {H H' : Hp} {f c : Addr} {m : Nat} (x : Feed H f c m) (s : Same H H') : Feed H' f c m := let ⟨ns, a, l, t, h1, h2, h3⟩ := x; ⟨ns, a, l, t, s _ _ h1, s _ _ h2, h3⟩
theorem Feed.le {H : Hp} {f c : Addr} {m n : Nat} (x : Feed H f c m) (h : n ≤ m) : Feed H f c n := let ⟨ns, a, l, t, h1, h2, h3, h4, h5⟩ := x; ⟨ns, a, l, t, h1, h2, h3, h4, by omega⟩
theorem fkv_c (c : Addr) (a l t : Int) : valV (fkv c a l t) (Sum.inr ("cells" : Str)) = some (.ref c) := by rfl
theorem fkv_a (c : Addr) (a l t : Int) : valV (fkv c a l t) (Sum.inr ("at" : Str)) = some (.int a) := by rfl
theorem fkv_l (c : Addr) (a l t : Int) : valV (fkv c a l t) (Sum.inr ("left" : Str)) = some (.int l) := by rfl
theorem fkv_t (c : Addr) (a l t : Int) : valV (fkv c a l t) (Sum.inr ("turn" : Str)) = some (.int t) := by rfl
theorem fkv_pa (c : Addr) (a l t y : Int) : putK (fkv c a l t) (Sum.inr ("at" : Str)) (.int y) = fkv c y l t := by rfl
theorem fkv_pl (c : Addr) (a l t y : Int) : putK (fkv c a l t) (Sum.inr ("left" : Str)) (.int y) = fkv c a y t := by rfl
theorem fkv_pt (c : Addr) (a l t y : Int) : putK (fkv c a l t) (Sum.inr ("turn" : Str)) (.int y) = fkv c a l y := by rfl
theorem eb_geI {ta tb : TE} {σ : L2.St} {H : Hp} {i j : Int} (ha : Ev ta σ H (.int i)) (hb : Ev tb σ H (.int j)) : Ev (tOp (rI0 fun i j => .bl (decide (j ≤ i))) ta tb) σ H (.bl (decide (j ≤ i))) := Evl.ev_op ha hb Evl.rv_I0
theorem ev_mod {ta tb : TE} {σ : L2.St} {H : Hp} {i j : Int} (ha : Ev ta σ H (.int i)) (hb : Ev tb σ H (.int j)) (h : 0 < j) : Ev (tOp (rI (fun _ j => 0 < j) fun i j => .int (i % j)) ta tb) σ H (.int (i % j)) := Evl.ev_op ha hb (Evl.rv_I (C := fun _ j => 0 < j) (g := fun i j => .int (i % j)) h)
theorem ev_div {ta tb : TE} {σ : L2.St} {H : Hp} {i j : Int} (ha : Ev ta σ H (.int i)) (hb : Ev tb σ H (.int j)) (h : CDiv i j) : Ev (tOp (rI CDiv fun i j => .int (i / j)) ta tb) σ H (.int (i / j)) := Evl.ev_op ha hb (Evl.rv_I (C := CDiv) (g := fun i j => .int (i / j)) h)
theorem ev_pow {ta tb : TE} {σ : L2.St} {H : Hp} {i j : Int} (ha : Ev ta σ H (.int i)) (hb : Ev tb σ H (.int j)) (h : CPow i j) : Ev (tOp (rI CPow fun i j => .int (i ^ j.toNat)) ta tb) σ H (.int (i ^ j.toNat)) := Evl.ev_op ha hb (Evl.rv_I (C := CPow) (g := fun i j => .int (i ^ j.toNat)) h)
theorem ev_mul {ta tb : TE} {σ : L2.St} {H : Hp} {i j : Int} (ha : Ev ta σ H (.int i)) (hb : Ev tb σ H (.int j)) (h : CMul i j) : Ev (tOp (rI CMul fun i j => .int (i * j)) ta tb) σ H (.int (i * j)) := Evl.ev_op ha hb (Evl.rv_I (C := CMul) (g := fun i j => .int (i * j)) h)
theorem ev_add {ta tb : TE} {σ : L2.St} {H : Hp} {i j : Int} (ha : Ev ta σ H (.int i)) (hb : Ev tb σ H (.int j)) : Ev (tOp (rI0 fun i j => .int (i + j)) ta tb) σ H (.int (i + j)) := Evl.ev_op ha hb Evl.rv_I0
/-- an assignment, the value forgotten but for a property -/
theorem s_asgR {te : TE} {σ : L2.St} {H : Hp} {D : Ends} {i : Nat} {v : Int} {R : Int → Prop} (h : Ev te σ H (.int v)) (r : R v) (q : ∀ v H1, Same H H1 → R v → D.nx (σ.set i (some (.int v))) H1) : tAsg te (gName i) D σ H := Evl.s_asg h fun H1 s1 => q v H1 s1 r
section
variable {P : Program} {w : World} {K : PySem.W.Frag} {mg : Str → Option Value} {base : Heap} (T : Tp K mg)
include T
def spDraw : Sp := fun vs H Q _ => ∃ (f c : Addr) (m : Nat) (many : Int), vs = [.ref f, .int many] ∧ 0 < many ∧ many < 1073741824 ∧ Feed H f c (m + 1) ∧ ∀ r H', 0 ≤ r → r < many → Kp H H' f → Feed H' f c m → Q (.int r) H'
theorem ok_draw : Ok P w K mg base 1 ("_law_draw", none) ["_law_feed_here", "_law_many"] spDraw := by
  refine ok_of T.f_l_draw c_l_draw (fun _ _ _ _ _ _ us hl => match us, hl with | [_, _], _ => rfl) (fun vs H Q E ⟨f, c, m, many, e, _⟩ => by rw [e]; rfl) (fun cdv A outer s0 H vs Q E hr h => ?_)
  obtain ⟨f, c, m, many, rfl, hm0, hm1, F, q⟩ := h
  have hu := hr.units
  have hu1 : _ + 1 < cLine := hu_of hr
  have g : ∀ {e : Str}, True := fun {e} => trivial
  refine ⟨_, pss_cons (ps_set (i := 2) c_l_draw.nd rfl (.inl rfl) (pe_op op_add (pe_dget hu1 (pv 0) pe_str (fun _ _ => rfl)) pe_int))
    (pss_cons (ps_dput hu1 (pv 0) pe_str (pv 2) rfl)
    (pss_cons (ps_if (pt_cmpR op_gt (pe_dget hu1 (pv 0) pe_str (fun _ _ => rfl)) pe_int (nomark _))
      (pss_cons (ps_set (i := 3) c_l_draw.nd rfl (.inl rfl) (pe_op op_mod (pe_dget hu1 (pv 0) pe_str (fun _ _ => rfl)) (pv 1)))
      (pss_cons (ps_dput hu1 (pv 0) pe_str (pe_op op_fdiv (pe_dget hu1 (pv 0) pe_str (fun _ _ => rfl)) (pv 1)) rfl)
      (pss_one (ps_ret (pv 3))))) pss_nil)
    (pss_cons (ps_set (i := 4) c_l_draw.nd rfl (.inl rfl) (pe_dget hu1 (pv 0) pe_str (fun _ _ => rfl)))
    (pss_cons (ps_dput hu1 (pv 0) pe_str (pe_op op_add (pv 4) pe_int) rfl)
    (pss_cons (ps_set (i := 5) c_l_draw.nd rfl (.inl rfl) pe_int)
    (pss_cons (ps_if (pt_cmpR (op_neNil hu) (pe_dget hu1 (pv 0) pe_str (fun _ _ => rfl)) (pe_lst pa_nil) (nomark _))
      (pss_one (ps_set (i := 5) c_l_draw.nd rfl (.inl rfl) (pe_ix ix_list (pe_dget hu1 (pv 0) pe_str (fun _ _ => rfl)) (pe_op op_mod (pv 4) (pe_callB call_len_seq (by rfl) T.b_len PySem.boot_len (pa_cons (pe_dget hu1 (pv 0) pe_str (fun _ _ => rfl)) pa_nil))) (fun _ _ => rfl)))) pss_nil)
    (pss_cons (ps_if (pw_and (pt_cmpR op_ge (pv 5) (pe_op op_pow pe_int pe_int) (nomark _)) (pw_and1 (pt_cmpR op_lt (pv 4) (pe_callB call_len_seq (by rfl) T.b_len PySem.boot_len (pa_cons (pe_dget hu1 (pv 0) pe_str (fun _ _ => rfl)) pa_nil)) (nomark _)))).pt
      (pss_cons (ps_dput hu1 (pv 0) pe_str (pe_op op_fdiv (pv 5) (pv 1)) rfl) (pss_one (ps_ret (pe_op op_mod (pv 5) (pv 1))))) pss_nil)
    (pss_cons (ps_set (i := 6) c_l_draw.nd rfl (.inl rfl) (pe_op op_mod (pe_op op_pow (pe_op op_add (pe_op op_add (pe_op op_mod (pv 5) pe_int) (pe_op op_mul pe_int (pv 2))) pe_int) pe_int) pe_int))
    (pss_cons (ps_set (i := 6) c_l_draw.nd rfl (.inl rfl) (pe_op op_mod (pe_op op_pow (pe_op op_add (pv 6) (pe_op op_mul pe_int (pv 2))) pe_int) pe_int))
    (pss_one (ps_ret (pe_op op_mod (pe_op op_fdiv (pv 6) pe_int) (pv 1))))))))))))), ?_⟩
  obtain ⟨ns, a, l, t, hf, hc, ha, ht, hb⟩ := F
  have hfc : c ≠ f := fun z => by rw [z, hf] at hc; cases hc
  refine Evl.s_asg (ev_add (ev_dget (Evl.ev_var rfl) Evl.ev_c hf (fkv_t _ _ _ _)) Evl.ev_c) fun H1 s1 => ?_
  refine s_dput (kvs := fkv c a l t) (s := "turn") (Evl.ev_var rfl) (Evl.ev_var rfl) Evl.ev_c (s1 _ _ hf) (Nat.le_of_ble_eq_true rfl) fun H2 W2 => ?_
  have hf2 : H2 f = some (.dK (fkv c a l (t + 1))) := by rw [← fkv_pt c a l t (t + 1)]; exact W2.at_
  have hc2 : H2 c = some (.lst (ns.map V.int)) := W2.keep c _ hfc (s1 _ _ hc)
  have k2 : Kp H H2 f := Kp.pre s1 W2.kp
  dsimp only
  refine Evl.s_if (et_T (eb_gtI (ev_dget (Evl.ev_var rfl) Evl.ev_c hf2 (fkv_l _ _ _ _)) Evl.ev_c)) (fun hb H3 s3 => ?_) (fun hb H3 s3 => ?_)
  · have hf3 := s3 _ _ hf2
    refine Evl.s_asg (ev_mod (ev_dget (Evl.ev_var rfl) Evl.ev_c hf3 (fkv_l _ _ _ _)) (Evl.ev_var rfl) hm0) fun H4 s4 => ?_
    have hf4 := s4 _ _ hf3
    refine s_dput (kvs := fkv c a l (t + 1)) (s := "left") (ev_div (ev_dget (Evl.ev_var rfl) Evl.ev_c hf4 (fkv_l _ _ _ _)) (Evl.ev_var rfl) ⟨hm0, hm1⟩) (Evl.ev_var rfl) Evl.ev_c hf4 (Nat.le_of_ble_eq_true rfl) fun H5 W5 => ?_
    dsimp only
    refine Evl.s_ret (Evl.ev_var rfl) fun H6 s6 => ?_
    have hf5 : H5 f = some (.dK (fkv c a (l / many) (t + 1))) := by rw [← fkv_pl c a l (t + 1) (l / many)]; exact W5.at_
    exact q (l % many) H6 (Int.emod_nonneg _ (by omega)) (Int.emod_lt_of_pos _ hm0) (fun b u hb e => s6 _ _ (W5.keep b u hb (s4 _ _ (s3 _ _ (k2 b u hb e))))) ⟨ns, a, _, _, s6 _ _ hf5, s6 _ _ (W5.keep c _ hfc (s4 _ _ (s3 _ _ hc2))), ha, by omega, by omega⟩
  refine s_nil ?_
  dsimp only
  have hf3 := s3 _ _ hf2
  refine Evl.s_asg (ev_dget (Evl.ev_var rfl) Evl.ev_c hf3 (fkv_a _ _ _ _)) fun H4 s4 => ?_
  have hf4 := s4 _ _ hf3
  refine s_dput (kvs := fkv c a l (t + 1)) (s := "at") (ev_add (Evl.ev_var rfl) Evl.ev_c) (Evl.ev_var rfl) Evl.ev_c hf4 (Nat.le_of_ble_eq_true rfl) fun H5 W5 => ?_
  have hf5 : H5 f = some (.dK (fkv c (a + 1) l (t + 1))) := by rw [← fkv_pa c a l (t + 1) (a + 1)]; exact W5.at_
  have hc5 : H5 c = some (.lst (ns.map V.int)) := W5.keep c _ hfc (s4 _ _ (s3 _ _ hc2))
  have k5 : Kp H H5 f := fun b u hb e => W5.keep b u hb (s4 _ _ (s3 _ _ (k2 b u hb e)))
  dsimp only
  refine Evl.s_asg Evl.ev_c fun H6 s6 => ?_
  have hf6 := s6 _ _ hf5
  have hc6 := s6 _ _ hc5
  dsimp only
  refine Evl.s_if (et_T (eb_nnil (p := c) (ev_dget (Evl.ev_var rfl) Evl.ev_c hf6 (fkv_c _ _ _ _)) (.of hc6))) (fun hb H7 s7 => ?x) (fun hb H8 s8 => ?y)
  case' x =>
    have hf7 := s7 _ _ hf6
    have hc7 := s7 _ _ hc6
    have hne : 0 < ns.length := by
      cases ns with
      | nil => cases hb
      | cons _ _ => exact Nat.succ_pos _
    have hln : (ns.map V.int).length = ns.length := List.length_map _
    obtain ⟨cell, hcell⟩ : ∃ cell : Int, atI (ns.map V.int) (a % (ns.length : Int)) = some (.int cell) := by
      have h0 : 0 ≤ a % (ns.length : Int) := Int.emod_nonneg _ (by omega)
      have h1 : a % (ns.length : Int) < ns.length := Int.emod_lt_of_pos _ (by omega)
      obtain ⟨j, hj⟩ : ∃ j : Nat, (j : Int) = a % (ns.length : Int) := ⟨(a % (ns.length : Int)).toNat, Int.toNat_of_nonneg h0⟩
      have hlt : j < ns.length := by omega
      refine ⟨ns[j], ?_⟩
      rw [← hj]
      refine atI_nat ?_
      rw [List.getElem?_map, List.getElem?_eq_getElem hlt]; rfl
    have evc : ∀ {H8 : Hp} {σ : L2.St}, σ[0]? = some (some (.ref f)) → Same H7 H8 → Ev (tDGet (tVar 0) (tC (.str "cells"))) σ H8 (.ref c) := fun z s => ev_dget (Evl.ev_var z) Evl.ev_c (s _ _ hf7) (fkv_c _ _ _ _)
    refine Evl.s_asg (v := .int cell) (fun H8 s8 Q8 q8 => (evc rfl s8) H8 (Evl.Ex.refl _) _ fun H9 s9 => (ev_mod (Evl.ev_var rfl) (ev_lenAt (evc rfl (Same.tr s8 s9)) (.of ((Same.tr s8 s9) _ _ hc7))) (by rw [hln]; omega)) H9 (Evl.Ex.refl _) _ fun H10 s10 => ⟨c, _, _, _, rfl, rfl, .of ((Same.tr s8 (Same.tr s9 s10)) _ _ hc7), by rw [hln]; exact hcell, q8 H10 (Same.tr s9 s10)⟩) fun H8 s78 => ?_
    have s8 : Same H6 H8 := Same.tr s7 s78
  case' y =>
    refine s_nil ?_
  all_goals
    dsimp only
    have hf8 := s8 _ _ hf6
    have hc8 := s8 _ _ hc6
    have k8 : Kp H H8 f := fun b u hb e => s8 _ _ (s6 _ _ (k5 b u hb e))
    refine Evl.s_if (Evl.et_and (et_T (eb_geI (Evl.ev_var rfl) (ev_pow Evl.ev_c Evl.ev_c ⟨by decide, by decide, by decide⟩))) fun _ => et_T (eb_ltI (Evl.ev_var rfl) (ev_lenAt (ev_dget (Evl.ev_var rfl) Evl.ev_c hf8 (fkv_c _ _ _ _)) (.of hc8)))) (fun hb H9 s9 => ?_) (fun hb H9 s9 => ?_)
    · have hf9 := s9 _ _ hf8
      refine s_dput (kvs := fkv c (a + 1) l (t + 1)) (s := "left") (ev_div (Evl.ev_var rfl) (Evl.ev_var rfl) ⟨hm0, hm1⟩) (Evl.ev_var rfl) Evl.ev_c hf9 (Nat.le_of_ble_eq_true rfl) fun H10 W10 => ?_
      have hf10 := W10.at_
      rw [fkv_pl] at hf10
      dsimp only
      refine Evl.s_ret (ev_mod (Evl.ev_var rfl) (Evl.ev_var rfl) hm0) fun H11 s11 => ?_
      exact q _ H11 (Int.emod_nonneg _ (by omega)) (Int.emod_lt_of_pos _ hm0) (fun b u hb e => s11 _ _ (W10.keep b u hb (s9 _ _ (k8 b u hb e)))) ⟨ns, a + 1, _, _, s11 _ _ hf10, s11 _ _ (W10.keep c _ hfc (s9 _ _ hc8)), by omega, by omega, by omega⟩
    · refine s_nil ?_
      dsimp only
      refine s_asgR (R := fun v => 0 ≤ v ∧ v < 2147483647) (ev_mod (ev_pow (ev_add (ev_add (ev_mod (Evl.ev_var rfl) Evl.ev_c (by decide)) (ev_mul Evl.ev_c (Evl.ev_var rfl) (.inl ⟨by decide, by decide⟩))) Evl.ev_c) Evl.ev_c ⟨by decide, by decide, ?_⟩) Evl.ev_c (by decide)) ⟨Int.emod_nonneg _ (by decide), Int.emod_lt_of_pos _ (by decide)⟩ fun m1 H10 s10 r1 => ?_
      · have z1 : ∀ x : Int, 0 ≤ x % 2147483629 ∧ x % 2147483629 < 2147483629 := fun x => ⟨Int.emod_nonneg _ (by decide), Int.emod_lt_of_pos _ (by decide)⟩
        refine (fun (x y : Int) (h : 0 ≤ x ∧ x < 2147483629) (hy : 0 ≤ y ∧ y ≤ 100000) => (by omega : (x + 7919 * y + 1).natAbs < 2 ^ 64)) _ (t + 1) (z1 _) ⟨by omega, by omega⟩
      dsimp only
      refine s_asgR (R := fun v => 0 ≤ v ∧ v < 2147483587) (ev_mod (ev_pow (ev_add (Evl.ev_var rfl) (ev_mul Evl.ev_c (Evl.ev_var rfl) (.inl ⟨by decide, by decide⟩))) Evl.ev_c ⟨by decide, by decide, ?_⟩) Evl.ev_c (by decide)) ⟨Int.emod_nonneg _ (by decide), Int.emod_lt_of_pos _ (by decide)⟩ fun m2 H11 s11 r2 => ?_
      · refine (fun (x y : Int) (h : 0 ≤ x ∧ x < 2147483647) (hy : 0 ≤ y ∧ y ≤ 100000) => (by omega : (x + 104729 * y).natAbs < 2 ^ 64)) _ (t + 1) r1 ⟨by omega, by omega⟩
      dsimp only
      refine Evl.s_ret (ev_mod (ev_div (Evl.ev_var rfl) Evl.ev_c ⟨by decide, by decide⟩) (Evl.ev_var rfl) hm0) fun H12 s12 => ?_
      have s912 : Same H8 H12 := Same.tr s9 (Same.tr s10 (Same.tr s11 s12))
      exact q _ H12 (Int.emod_nonneg _ (by omega)) (Int.emod_lt_of_pos _ hm0) (fun b u hb e => s912 _ _ (k8 b u hb e)) ⟨ns, a + 1, _, _, s912 _ _ hf8, s912 _ _ hc8, by omega, by omega, by omega⟩
end
end CB
/-! CBP2 -/
set_option Elab.async false
set_option autoImplicit false
set_option linter.all false
set_option maxRecDepth 100000
set_option maxHeartbeats 2000000
/-! Comprehensions that draw; a home. -/
namespace CB
open PySem PySem.Spec PyProof.Rows L2
open Evl (Ev EvT EvA EvO)
section
variable {σ : L2.St} {H : Hp} {ta : TA} {te tm : TE} {tt : TT} {g : TG} {vs : List Nat} {f c : Addr} {m : Nat} {many : Int}
theorem rd_draw {Q : VK} (h0 : Ev te σ H (.ref f)) (hm : Ev tm σ H (.int many)) (h1 : 0 < many) (h2 : many < 1073741824) (F : Feed H f c (m + 1)) (q : ∀ r H', 0 ≤ r → r < many → Kp H H' f → Feed H' f c m → Q (.int r) H') : tCall spDraw [] E0 (tCons te (tCons tm tNil)) σ H Q :=
  (Evl.ea_cons h0 (Evl.ea_cons hm Evl.ea_nil)) H (Evl.Ex.refl _) _ fun H1 s1 => ⟨f, c, m, many, rfl, h1, h2, F.same s1, fun r H' a b k F' => q r H' a b (Kp.pre s1 k) F'⟩
/-- [e for x in range(n) if t], the heap changed on the way -/
theorem lc_rng (J : Addr → Nat → List V → Hp → Prop) {n : Nat} (hn : n ≤ 40000) (ha : EvA ta σ H [.int (n : Int)]) {Q : VK} (h0 : ∀ D H1, Same H H1 → H1 D = none → J D 0 [] (upd H1 D (.lst [])))
    (step : ∀ D i acc H1, i < n → acc.length ≤ i → H1 D = some (.lst acc) → J D i acc H1 → ∀ (Y : VK) (N : Hp → Prop), (∀ y H4, H4 D = some (.lst acc) → J D (i + 1) (acc ++ [y]) (upd H4 D (.lst (acc ++ [y]))) → Y y H4) → (∀ H3, H3 D = some (.lst acc) → J D (i + 1) acc H3 → N H3) →
      g (.int (i : Nat)) (wipe σ vs) H1 fun σ2 H2 => wipe σ2 vs = wipe σ vs ∧ tt σ2 H2 fun b H3 => if b = true then te σ2 H3 Y else N H3)
    (q : ∀ D acc H1, H1 D = some (.lst acc) → acc.length ≤ n → J D n acc H1 → Q (.ref D) H1) : tLc (iRng1 ta) g tt te vs σ H Q := by
  refine ha H (Evl.Ex.refl _) _ fun H1 s1 => ⟨n, rfl, by omega, by omega, ?_⟩
  intro D hD
  have en : ((n : Int)).toNat = n := Int.toNat_natCast n
  rw [en]
  refine ⟨fun i m H' => m = n - i ∧ i ≤ n ∧ ∃ acc, acc.length ≤ i ∧ H' D = some (.lst acc) ∧ J D i acc H', ⟨n, by simp, Nat.zero_le _, [], Nat.le_refl _, upd_same, h0 D H1 s1 hD⟩, ?_⟩
  rintro i m H' ⟨rfl, hi, acc, la, hD', hj⟩
  rcases Nat.lt_or_ge i n with lt | ge
  · refine .inr ⟨lt, fun H3 => i + 1 ≤ n ∧ ∃ acc, acc.length ≤ i + 1 ∧ H3 D = some (.lst acc) ∧ J D (i + 1) acc H3, fun H3 ⟨a1, a2⟩ => ⟨_, by omega, rfl, a1, a2⟩, fun x H3 y => ?_⟩
    obtain ⟨rfl, rfl⟩ := y
    rw [Int.zero_add]
    exact step D i acc _ lt la hD' hj _ _ (fun y H4 z1 z2 => ⟨acc, z1, Nat.lt_of_le_of_lt (by omega : acc.length ≤ 40000) (by decide), lt, acc ++ [y], by rw [List.length_append, List.length_singleton]; omega, upd_same, z2⟩) (fun H4 z1 z2 => ⟨lt, acc, by omega, z1, z2⟩)
  · obtain rfl : i = n := by omega
    exact .inl ⟨Nat.le_refl _, q D acc H' hD' la hj⟩
theorem Feed.upd {H : Hp} {D : Addr} {o : HO} (F : Feed H f c m) (h1 : D ≠ f) (h2 : D ≠ c) : Feed (upd H D o) f c m := let ⟨ns, a, l, t, e1, e2, e3⟩ := F; ⟨ns, a, l, t, by rw [upd_ne h1.symm]; exact e1, by rw [upd_ne h2.symm]; exact e2, e3⟩
theorem Feed.fresh {H : Hp} {D : Addr} (F : Feed H f c m) (h : H D = none) : D ≠ f ∧ D ≠ c := by
  obtain ⟨ns, a, l, t, e1, e2, e3⟩ := F
  exact ⟨fun z => (by rw [z, e1] at h; cases h), fun z => (by rw [z, e2] at h; cases h)⟩
theorem Feed.tup {H H' : Hp} (F : Feed H f c m) (k : Kp H H' f) : TupLe H H' := by
  obtain ⟨ns, a, l, t, e1, e2, e3⟩ := F
  exact k.tup fun ys e => by rw [e1] at e; cases e
theorem cb1 {te : TE} {r : List V → Hp → VK → Prop} {Q : VK} (h : te σ H fun v H1 => r [v] H1 Q) : tCB r (tCons te tNil) σ H Q := h
theorem nums_at : ∀ (l : List Int) (H : Hp), KAll H (l.map V.int) (nums l)
  | [], _ => .nil
  | i :: l, H => .cons (.num i) (nums_at l H)
/-- a draw compared with nought -/
theorem rt_gt {te : TE} {Q : Bool → Hp → Prop} (h0 : Ev te σ H (.ref f)) (h1 : 0 < many) (h2 : many < 1073741824) (F : Feed H f c (m + 1)) (q : ∀ b H', Kp H H' f → Feed H' f c m → Q b H') : tTest (tOp (rI0 fun i j => .bl (decide (j < i))) (tCall spDraw [] E0 (tCons te (tCons (tC (.int many)) tNil))) (tC (.int 0))) σ H Q :=
  rd_draw h0 Evl.ev_c h1 h2 F fun r H' _ _ k F' => ⟨r, 0, rfl, rfl, _, rfl, q _ H' k F'⟩
theorem Kp.tr {H H1 H2 : Hp} (a : Kp H H1 f) (b : Kp H1 H2 f) : Kp H H2 f := fun d u hd e => b d u hd (a d u hd e)
theorem Kp.rf (H : Hp) : Kp H H f := fun d u hd e => e
end
section
variable {P : Program} {w : World} {K : PySem.W.Frag} {mg : Str → Option Value} {base : Heap} (T : Tp K mg)
include T
/-- a home: days of the week -/
def homeOk (l : List Int) : Prop := l.length ≤ 7 ∧ ∀ i ∈ l, 0 ≤ i ∧ i < 7
def spLHome : Sp := fun vs H Q _ => ∃ (f c : Addr) (m : Nat), vs = [.ref f] ∧ Feed H f c (m + 8) ∧ ∀ v H' l, KAt H' v (.tup (nums l)) → homeOk l → Kp H H' f → Feed H' f c m → Q v H'
theorem ok_l_home : Ok P w K mg base 2 ("_law_home", none) ["_law_feed_here"] spLHome := by
  have G := ok_draw (P := P) (w := w) (base := base) T
  refine ok_of T.f_l_home c_l_home (fun _ _ _ _ _ _ us hl => match us, hl with | [_], _ => rfl) (fun vs H Q E ⟨f, c, m, e, _⟩ => by rw [e]; rfl) (fun cdv A outer s0 H vs Q E hr h => ?_)
  obtain ⟨f, c, m, rfl, F, q⟩ := h
  have hr1 : Room 1 _ := hr
  refine ⟨_, pss_one (ps_ret (pe_ifExp (pt_cmpR op_gt (pe_fn G hr1 (by rfl) T.g_l_draw (pa_cons (pv 0) (pa_cons pe_int pa_nil))) pe_int (nomark _))
    (pe_callTy call_tuple_of (by rfl) T.b_tuple PyProof.Rows.boot_tuple (pa_cons (pe_lc (own := [("_law_k", 1)]) (g := gName 1) (te := tVar 1) (tt := tTest (tOp (rI0 fun i j => .bl (decide (j < i))) (tCall spDraw [] E0 (tCons (tVar 0) (tCons (tC (.int 4)) tNil))) (tC (.int 0))))
        rfl c_l_home.nd (pi_range1 (by rfl) T.b_range (pa_cons pe_int pa_nil)) (blkOk_by (N := ["_law_feed_here", "_law_k"]) (sc := defScope s_l_home) (by decide +kernel)) (fun _ _ _ _ _ => pg_name (i := 1) c_l_home.nd rfl (.inl rfl))
        (fun _ _ _ _ _ => pts_one (pt_cmpR op_gt (pe_fn G hr1 (by rfl) T.g_l_draw (pa_cons (pv 0) (pa_cons pe_int pa_nil))) pe_int (nomark _))) (fun _ _ _ _ _ => pv 1)) pa_nil))
    (pe_tup pa_nil))), ?_⟩
  refine rt_gt (m := m + 7) (Evl.ev_var rfl) (by decide) (by decide) F fun b H1 k1 F1 => ?_
  cases b with
  | false =>
    rw [if_neg Bool.false_ne_true]
    refine (ek_tup eks_nil) H1 (.rf _) _ fun v H2 s2 hv => ?_
    exact q v H2 [] hv ⟨Nat.zero_le _, fun i h => (nomatch h)⟩ (k1.post s2) ((F1.le (by omega)).same s2)
  | true =>
    rw [if_pos rfl]
    refine cb1 ?_
    refine lc_rng (J := fun D i acc H' => D ≠ f ∧ D ≠ c ∧ H D = none ∧ Kp H H' f ∧ Feed H' f c (m + (7 - i)) ∧ ∃ l : List Int, acc = l.map V.int ∧ ∀ x ∈ l, 0 ≤ x ∧ x < 7) (n := 7) (by decide) (Evl.ea_cons Evl.ev_c Evl.ea_nil) (fun D H2 s2 hD => ?_) (fun D i acc H2 hi la hD hj Y N hY hN => ?_) fun D acc H2 hD la hj => ?_
    · have F2 := F1.same s2
      obtain ⟨n1, n2⟩ := F2.fresh hD
      have hD0 : H D = none := by
        cases e : H D with
        | none => rfl
        | some o => rw [(k1.post s2) D o n1 e] at hD; cases hD
      exact ⟨n1, n2, hD0, fun b u hb e => (by rw [upd_ne (ne_of_none e hD0)]; exact (k1.post s2) b u hb e), F2.upd n1 n2, [], rfl, fun x h => (nomatch h)⟩
    · obtain ⟨n1, n2, hD0, k2, F2, l, rfl, hl⟩ := hj
      refine ⟨rfl, ?_⟩
      refine rt_gt (m := m + (7 - (i + 1))) (Evl.ev_var rfl) (by decide) (by decide) (F2.le (by omega)) fun b H3 k3 F3 => ?_
      have hD3 := k3 D _ n1 hD
      cases b with
      | false =>
        rw [if_neg Bool.false_ne_true]
        exact hN H3 hD3 ⟨n1, n2, hD0, k2.tr k3, F3, l, rfl, hl⟩
      | true =>
        rw [if_pos rfl]
        refine ⟨_, rfl, hY _ H3 hD3 ⟨n1, n2, hD0, fun b u hb e => (by rw [upd_ne (ne_of_none e hD0)]; exact (k2.tr k3) b u hb e), F3.upd n1 n2, l ++ [(i : Int)], by rw [List.map_append]; rfl, fun x hx => ?_⟩⟩
        rcases List.mem_append.mp hx with hx | hx
        · exact hl x hx
        · rw [List.mem_singleton.mp hx]; omega
    · obtain ⟨n1, n2, hD0, k2, F2, l, rfl, hl⟩ := hj
      rw [List.length_map] at la
      refine ⟨D, _, rfl, .inl ⟨.of hD, fun t ht => ?_⟩⟩
      obtain ⟨m1, m2⟩ := F2.fresh ht
      exact q (.ref t) _ l (.tup upd_same (nums_at l _)) ⟨la, hl⟩ (k2.post (.up ht)) (F2.upd m1 m2)
end
end CB
/-! CBP3 -/
set_option Elab.async false
set_option autoImplicit false
set_option linter.all false
set_option maxRecDepth 100000
set_option maxHeartbeats 2000000
/-! The rank of a page. -/
namespace CB
open PySem PySem.Spec PyProof.Rows L2
open Evl (Ev EvT EvA EvO)
def Pg.kix : Pg → Nat
  | .house .. => 0
  | .part .. => 1
  | .join .. => 2
  | .home .. => 3
  | .mourn .. => 4
  | .ahead .. => 5
  | .card .. => 6
  | .visit .. => 7
def rankP (p : Pg) : NestedKey := .tup [.num p.day, .num (p.kix : Nat), .tup p.rest]
def kindsL : List Str := ["house", "part", "join", "home", "mourn", "ahead", "card", "visit"]
theorem kall_texts {H : Hp} : ∀ {l : List Str} {xs : List V}, KAll H xs (l.map NestedKey.text) → xs = l.map V.str
  | [], _, h => by cases h; rfl
  | s :: l, _, h => by
    cases h with
    | cons h1 h2 =>
      cases h1
      rw [kall_texts h2]
      rfl
theorem kind_at (p : Pg) : (kindsL.map V.str)[p.kix]? = some (.str p.kind) := by cases p <;> rfl
theorem kind_eq (p : Pg) : eqV (.str p.kind) (.str p.kind) = true := by
  have h : ∀ k : Str, eqV (.str k) (.str k) = true := fun k => by simp [eqV]
  exact h _
theorem kind_pre (p : Pg) : ∀ (m : Nat) (z : V), m < p.kix → (kindsL.map V.str)[m]? = some z → eqV z (.str p.kind) = false := by
  have key : ∀ (n : Nat) (k : Str), (List.range n).all (fun m => match (kindsL.map V.str)[m]? with | some z => !eqV z (.str k) | none => true) = true → ∀ (m : Nat) (z : V), m < n → (kindsL.map V.str)[m]? = some z → eqV z (.str k) = false := by
    intro n k h m z hm hz
    have := List.all_eq_true.mp h m (List.mem_range.mpr hm)
    rw [hz] at this
    simpa using this
  cases p
  · exact key 0 "house" (by decide +kernel)
  · exact key 1 "part" (by decide +kernel)
  · exact key 2 "join" (by decide +kernel)
  · exact key 3 "home" (by decide +kernel)
  · exact key 4 "mourn" (by decide +kernel)
  · exact key 5 "ahead" (by decide +kernel)
  · exact key 6 "card" (by decide +kernel)
  · exact key 7 "visit" (by decide +kernel)
theorem cut_rest (p : Pg) : cutK p.items (some 2) none = p.rest := by cases p <;> rfl
section
variable {P : Program} {w : World} {K : PySem.W.Frag} {mg : Str → Option Value} {base : Heap} (T : Tp K mg)
include T
def fRank (ks : List NestedKey) (k : NestedKey) : Prop := ∃ p : Pg, ks = [p.key] ∧ k = rankP p
theorem ok_l_rank : Ok P w K mg base 1 ("_law_rank", none) ["_law_page_here"] (spF fRank) := by
  refine ok_of T.f_l_rank c_l_rank (fun _ _ _ _ _ _ us hl => match us, hl with | [_], _ => rfl) (len_F fun ks k ⟨p, e, _⟩ => by rw [e]; rfl) (fun cdv A outer s H vs Q E hr h => ?_)
  obtain ⟨ks, k, ⟨p, rfl, rfl⟩, hs, q⟩ := h
  cases hs with
  | cons h1 h2 =>
  cases h2
  refine ⟨_, pss_cons (ps_set (i := 1) c_l_rank.nd rfl (.inl rfl) (pe_lst (pa_cons pe_str (pa_cons pe_str (pa_cons pe_str (pa_cons pe_str (pa_cons pe_str (pa_cons pe_str (pa_cons pe_str (pa_cons pe_str pa_nil))))))))))
    (pss_one (ps_ret (pe_tup (pa_cons (pe_ix ix_tup (pv 0) pe_int (fun _ _ => rfl)) (pa_cons (pe_bm PySem.F.plainAttrs_list PySem.F.slot_list_index PySem.F.type_list_index mt_index (pv 1) (pa_cons (pe_ix ix_tup (pv 0) pe_int (fun _ _ => rfl)) pa_nil)) (pa_cons (pe_slice sl_tupA (pv 0) (po_some pe_int) po_none) pa_nil)))))), ?_⟩
  refine s_asgLK (ks := kindsL.map NestedKey.text) (el_lstK (eks_cons ek_str (eks_cons ek_str (eks_cons ek_str (eks_cons ek_str (eks_cons ek_str (eks_cons ek_str (eks_cons ek_str (eks_cons ek_str eks_nil))))))))) fun lp xs H1 hlp s1 hl1 hk1 => ?_
  obtain rfl := kall_texts hk1
  have h1' := h1.mono s1
  dsimp only
  have ei : Ev (tBM K "list" (rIndex K) (tVar 1) (tCons (tOp (rIxT K) (tVar 0) (tC (.int 0))) tNil)) [some _, some (.ref lp)] H1 (.int (p.kix : Nat)) := fun H2 s2 Q2 q2 =>
    ⟨_, rfl, .inl ⟨rfl, _, .of (s2 _ _ hl1)⟩, (EvK.text (ek_ix (ek_var rfl h1') Evl.ev_c p.items0)) H2 s2 _ fun H3 s3 => ⟨lp, _, _, p.kix, _, rfl, rfl, .of ((Same.tr s2 s3) _ _ hl1), rfl, rfl, kind_at p, kind_eq p, kind_pre p, q2 H3 s3⟩⟩
  refine s_retK (ek_tup (eks_cons (ek_ix (ek_var rfl h1') Evl.ev_c p.items1) (eks_cons (ek_num ei) (eks_cons (by
    rw [← cut_rest p]
    exact ek_sl (ek_var rfl h1') eo_int eo_non) eks_nil)))) fun v H2 s2 hv => q v H2 (s1.tr s2) hv
end
end CB
/-! CBP5 -/
set_option Elab.async false
set_option autoImplicit false
set_option linter.all false
set_option maxRecDepth 100000
set_option maxHeartbeats 2000000
/-! The orders: of ranks by day, of pairs one alone. -/
namespace CB
open PySem PySem.Spec L2
open PySem.W
open PyProof.Rows (listOrd itemOrd KeyOrd)
theorem leN_total : TotalLe leN := by
  unfold leN dataLe
  exact sortLe_total (listOrd itemOrd) false fun b => keyToks (NestedKey.data b)
theorem leR_total (rk : NestedKey → NestedKey) : TotalLe (leR rk) := by
  unfold leR dataLe
  exact sortLe_total (listOrd itemOrd) false fun b => keyToks ((rk b).data)
theorem sorted_leN (l : List NestedKey) : (l.mergeSort leN).Pairwise fun a b => leN a b = true := sort_pairwise leN_total l
theorem sorted_leR (rk : NestedKey → NestedKey) (l : List NestedKey) : (l.mergeSort (leR rk)).Pairwise fun a b => leR rk a b = true := sort_pairwise (leR_total rk) l
theorem toks_rank (p : Pg) : ∃ t, keyToks (rankP p).data = .inl 1 :: .inl p.day :: t := by
  simp only [rankP, NestedKey.data, NestedKey.datas, keyToks, keyToksAll, List.cons_append, List.nil_append]
  exact ⟨_, rfl⟩
theorem lex_head {O : KeyOrd} {a b : O.α} {s t : List O.α} (h : O.blt a b = true) : PyProof.Rows.lexLt O (a :: s) (b :: t) = true := by
  have hne : a ≠ b := fun e => by rw [e, O.irrefl] at h; cases h
  rw [PyProof.Rows.lex_diff hne]
  exact h
theorem rank_day {rk : NestedKey → NestedKey} {a b : NestedKey} {p q : Pg} (ha : rk a = rankP p) (hb : rk b = rankP q) (h : leR rk a b = true) : p.day ≤ q.day := by
  have h' : (!PyProof.Rows.lexLt itemOrd (keyToks (rk b).data) (keyToks (rk a).data)) = true := h
  rw [ha, hb] at h'
  obtain ⟨t, e1⟩ := toks_rank p
  obtain ⟨u, e2⟩ := toks_rank q
  rw [e1, e2, PyProof.Rows.lex_self] at h'
  rcases Int.lt_or_le q.day p.day with lt | le
  · rw [lex_head (O := itemOrd) (show PyProof.Rows.itemLt (.inl q.day) (.inl p.day) = true from by unfold PyProof.Rows.itemLt; exact decide_eq_true lt)] at h'
    cases h'
  · exact le
theorem toks_prK (p : Str × Str) : keyToks (prK p).data = [.inl 1, .inr p.1.cps.toList, .inl 1, .inr p.2.cps.toList, .inl 0] := by
  simp [prK, NestedKey.data, NestedKey.datas, keyToks, keyToksAll]
theorem prK_anti {p q : Str × Str} (h1 : leN (prK p) (prK q) = true) (h2 : leN (prK q) (prK p) = true) : p = q := by
  have h1' : (!PyProof.Rows.lexLt itemOrd (keyToks (prK q).data) (keyToks (prK p).data)) = true := h1
  have h2' : (!PyProof.Rows.lexLt itemOrd (keyToks (prK p).data) (keyToks (prK q).data)) = true := h2
  rw [Bool.not_eq_true'] at h1' h2'
  have e : keyToks (prK p).data = keyToks (prK q).data := (listOrd itemOrd).total _ _ h2' h1'
  rw [toks_prK, toks_prK] at e
  simp only [List.cons.injEq, Sum.inr.injEq, and_true, true_and] at e
  exact Prod.ext (str_of_cps e.1) (str_of_cps e.2)
theorem sort_prK_eq {us qs : List NestedKey} (hu : ∀ k ∈ us, ∃ p, k = prK p) (nu : us.Nodup) (nq : qs.Nodup) (hm : ∀ k, k ∈ us ↔ k ∈ qs) : us.mergeSort leN = qs.mergeSort leN := by
  have pm : us.Perm qs := (List.perm_ext_iff_of_nodup nu nq).mpr hm
  have p2 : (us.mergeSort leN).Perm (qs.mergeSort leN) := ((List.mergeSort_perm us leN).trans pm).trans (List.mergeSort_perm qs leN).symm
  refine List.Perm.eq_of_pairwise (le := fun a b => leN a b = true) (fun a b ha hb h1 h2 => ?_) (sorted_leN us) (sorted_leN qs) p2
  obtain ⟨p, rfl⟩ := hu a ((List.mergeSort_perm us leN).mem_iff.mp ha)
  obtain ⟨q, rfl⟩ := hu b ((hm b).mpr ((List.mergeSort_perm qs leN).mem_iff.mp hb))
  rw [prK_anti h1 h2]
theorem pages_up : ∀ {ps : List Pg} {rk : NestedKey → NestedKey}, (∀ p : Pg, rk p.key = rankP p) → (pgs ps).Pairwise (fun a b => leR rk a b = true) → rising ps
  | [], _, _, _ => List.Pairwise.nil
  | p :: ps, rk, hr, h => by
    have h' : (p.key :: pgs ps).Pairwise (fun a b => leR rk a b = true) := h
    obtain ⟨h1, h2⟩ := List.pairwise_cons.mp h'
    exact List.pairwise_cons.mpr ⟨fun q hq => rank_day (hr p) (hr q) (h1 q.key (List.mem_map.mpr ⟨q, hq, rfl⟩)), pages_up hr h2⟩
noncomputable def rkK (k : NestedKey) : NestedKey := open Classical in if h : ∃ p : Pg, k = p.key then rankP h.choose else .none
theorem rkK_key (p : Pg) : rkK p.key = rankP p := by
  unfold rkK
  have h : ∃ q : Pg, p.key = q.key := ⟨p, rfl⟩
  rw [dif_pos h]
  exact congrArg rankP (Pg.key_inj h.choose_spec).symm
/-- what a sort by rank leaves: the same pages, rising -/
theorem rank_sorted (ps : List Pg) : ∃ qs : List Pg, (pgs ps).mergeSort (leR rkK) = pgs qs ∧ qs.Perm ps ∧ rising qs := by
  obtain ⟨qs, h1, h2⟩ := perm_map Pg.key (List.mergeSort_perm (pgs ps) (leR rkK))
  refine ⟨qs, h2, h1, pages_up rkK_key ?_⟩
  show (qs.map Pg.key).Pairwise _
  rw [← h2]
  exact sorted_leR rkK (pgs ps)
theorem alike_nums : ∀ l m : List Int, alikeAll (NestedKey.datas (l.map .num)) (NestedKey.datas (m.map .num)) = true
  | [], m => by simp [NestedKey.datas, alikeAll]
  | i :: l, [] => by simp [NestedKey.datas, alikeAll]
  | i :: l, j :: m => by
    have := alike_nums l m
    simp [NestedKey.datas, NestedKey.data, alikeAll, alike, this]
theorem alike_rest (p q : Pg) (h : p.kix = q.kix) : alikeAll (NestedKey.datas p.rest) (NestedKey.datas q.rest) = true := by
  cases p <;> cases q <;> simp only [Pg.kix] at h <;> first
    | (exfalso; omega)
    | simp [Pg.rest, NestedKey.datas, NestedKey.data, alikeAll, alike, alike_nums]
theorem rank_UpN (ps : List Pg) : UpN ((pgs ps).map rkK) where
  like := fun r l hr hl => by
    obtain ⟨k, hk, e1⟩ := List.mem_map.mp hr
    obtain ⟨k', hk', e2⟩ := List.mem_map.mp hl
    obtain ⟨p, _, rfl⟩ := mem_pgs hk
    obtain ⟨q, _, rfl⟩ := mem_pgs hk'
    rw [rkK_key] at e1 e2
    unfold rankP at e1 e2
    injection e1 with e1
    injection e2 with e2
    subst e1 e2
    by_cases h : p.kix = q.kix
    · have := alike_rest p q h
      simp [NestedKey.datas, NestedKey.data, upAll, alike, this]
    · have e : PyData.eqv (PyData.int (p.kix : Nat)) (PyData.int (q.kix : Nat)) = false := by
        simp [PyData.eqv]
        omega
      simp [NestedKey.datas, NestedKey.data, upAll, alike, e]
  tup := fun k hk => by
    obtain ⟨k', hk', rfl⟩ := List.mem_map.mp hk
    obtain ⟨p, _, rfl⟩ := mem_pgs hk'
    rw [rkK_key]
    exact ⟨_, _, rfl⟩
  depth := fun k hk => by
    obtain ⟨k', hk', rfl⟩ := List.mem_map.mp hk
    obtain ⟨p, _, rfl⟩ := mem_pgs hk'
    rw [rkK_key]
    have := p.key_depth
    unfold rankP
    simp only [Pg.key, Pg.items, NestedKey.depth, NestedKey.depthAll] at this ⊢
    omega
end CB
/-! CBP6 -/
set_option Elab.async false
set_option autoImplicit false
set_option linter.all false
set_option maxRecDepth 100000
set_option maxHeartbeats 2000000
/-! The book put in order. -/
namespace CB
open PySem PySem.Spec PyProof.Rows L2
open Evl (Ev EvT EvA EvO)
section
variable {P : Program} {w : World} {K : PySem.W.Frag} {mg : Str → Option Value} {base : Heap} (T : Tp K mg)
include T
def spStand : Sp := fun vs H Q _ => ∃ (l : Addr) (xs : List V) (ps : List Pg), vs = [.ref l] ∧ H l = some (.lst xs) ∧ KAll H xs (pgs ps) ∧ ps.length ≤ 900 ∧ ∀ v H' qs, Same H H' → KAt H' v (.tup (pgs qs)) → qs.Nodup → (∀ q, q ∈ qs ↔ q ∈ ps) → rising qs → Q v H'
theorem ok_stand : Ok P w K mg base 4 ("_law_standing_so", none) ["_law_pages"] spStand := by
  obtain ⟨⟨fd, b, F⟩, kp⟩ := ok_l_rank (P := P) (w := w) (base := base) T
  refine ok_of T.f_l_standing_so c_l_standing_so (fun _ _ _ _ _ _ us hl => match us, hl with | [_], _ => rfl) (fun vs H Q E ⟨l, xs, ps, e, _⟩ => by rw [e]; rfl) (fun cdv A outer s H vs Q E hr h => ?_)
  obtain ⟨l, xs, ps, rfl, hl, hk, hlen, q⟩ := h
  have hu := hr.units
  have hr3 : Room 3 _ := hr
  have hsp : ∀ ks, UpN (ks.map rkK) → RankSp (spF fRank) rkK ks := fun ks hU => fun x k H Q E hm hx q => by
    by_cases h : ∃ p : Pg, k = p.key
    · obtain ⟨p, rfl⟩ := h
      exact ⟨[p.key], rankP p, ⟨p, rfl, rfl⟩, .cons hx .nil, fun v H' e hv => q v H' e (by rw [rkK_key]; exact hv)⟩
    · obtain ⟨i, r, e⟩ := hU.tup (rkK k) (List.mem_map.mpr ⟨k, hm, rfl⟩)
      unfold rkK at e
      rw [dif_neg h] at e
      cases e
  refine ⟨_, pss_cons (ps_set (i := 1) c_l_standing_so.nd rfl (.inl rfl) (pe_lst pa_nil))
    (pss_cons (ps_for .never rfl (pi_list (pv 0)) (pg_name (i := 2) c_l_standing_so.nd rfl (.inl rfl)) (pss_one (ps_if (pt_cmpR (op_notInN hu) (pv 2) (pv 1) (by with_unfolding_all rfl)) (pss_one (ps_expr (pe_bm PySem.F.plainAttrs_list PySem.F.slot_list_append PySem.F.type_list_append mt_append (pv 1) (pa_cons (pv 2) pa_nil)))) pss_nil)))
    (pss_one (ps_ret (pe_callTy call_tuple_of (by rfl) T.b_tuple PyProof.Rows.boot_tuple (pa_cons (pe_callBK (cr_sortRk F hr3 b hsp) (by rfl) T.b_sorted PyProof.Rows.boot_sorted (pa_cons (pv 1) pa_nil) (pk_cons (pe_glob (v := .ref (He.ga K "_law_rank")) (by rfl) T.g_l_rank rfl) pk_nil)) pa_nil))))), ?_⟩
  refine s_asgLK (ks := []) (el_lstK eks_nil) fun fp fxs H1 hfp s1 hf1 hfk1 => ?_
  cases hfk1
  dsimp only
  have hl1 := s1 _ _ hl
  have hk1 := hk.mono s1
  have lx : xs.length = ps.length := by rw [hk.length]; unfold pgs; rw [List.length_map]
  have lne : l ≠ fp := ne_of_none hl hfp
  refine Evl.s_forL (Evl.ev_var rfl) (.of hl1) (fun i σ' H' => (σ'.length = 3 ∧ σ'[0]? = some (some (.ref l)) ∧ σ'[1]? = some (some (.ref fp))) ∧ Same H H' ∧ TupLe H1 H' ∧ ∃ acc qs, H' fp = some (.lst acc) ∧ KAll H' acc (pgs qs) ∧ qs.Nodup ∧ (∀ q, q ∈ qs ↔ q ∈ ps.take i) ∧ qs.length ≤ i)
    (fun H2 s2 => ⟨⟨rfl, rfl, rfl⟩, s1.tr s2, .of_same s2, [], [], s2 _ _ hf1, .nil, List.nodup_nil, fun q => Iff.rfl, Nat.le_refl _⟩) (fun i σ' H' _ h => .of (h.2.1 _ _ hl)) ?_ ?_
  · rintro i v σ' H2 hi ⟨⟨sh0, sh1, sh2⟩, s2, t2, acc, qs, hacc, hka, hnd, hmem, hle⟩
    obtain ⟨k, hk', hv⟩ := hk1.getV hi
    unfold pgs at hk'
    rw [List.getElem?_map] at hk'
    obtain ⟨p, hp, rfl⟩ := Option.map_eq_some_iff.mp hk'
    have ht : ps.take (i + 1) = ps.take i ++ [p] := by rw [List.take_add_one, hp]; simp
    have li : i < ps.length := (List.getElem?_eq_some_iff.mp hp).1
    obtain ⟨σ0, σ1, σ2, rfl⟩ : ∃ a b c, σ' = [a, b, c] := by
      match σ', sh0 with
      | [a, b, c], _ => exact ⟨a, b, c, rfl⟩
    cases sh1
    cases sh2
    have hv2 := KAt.keep t2 _ _ hv
    have hdep : NestedKey.depthAll (pgs qs) ≤ 30 := depthAll_le fun k hk => by
      obtain ⟨r, _, rfl⟩ := mem_pgs hk
      exact Nat.le_trans r.key_depth (by decide)
    have hin : decide (p.key ∈ pgs qs) = decide (p ∈ ps.take i) := decide_eq_decide.mpr ⟨fun h => by
      obtain ⟨r, hr, e⟩ := mem_pgs h
      rw [Pg.key_inj e]
      exact (hmem r).mp hr, fun h => List.mem_map.mpr ⟨p, (hmem p).mpr h, rfl⟩⟩
    refine Evl.s_if (b := !decide (p ∈ ps.take i)) (et_T (Evl.ev_is (eb_in (neg := true) (ek_var rfl hv2) (Evl.ev_var rfl) (.inl (.of hacc)) hka hdep) (by rw [if_pos rfl, hin]))) (fun hb H3 s3 => ?_) (fun hb H3 s3 => ?_)
    · have hnew : p ∉ ps.take i := by simpa using hb
      have hacc3 := s3 _ _ hacc
      have lacc : acc.length ≤ 2000 := by
        have := hka.length
        unfold pgs at this
        rw [List.length_map] at this
        omega
      refine s_app (k := p.key) (Evl.ev_var rfl) (eks_cons (ek_var rfl (hv2.mono s3)) eks_nil) hacc3 lacc fun u H4 W4 hu4 => ?_
      have t34 : TupLe H3 H4 := W4.tup fun ys e => by rw [hacc3] at e; cases e
      refine ⟨⟨rfl, rfl, rfl⟩, fun b o e => W4.keep b o (ne_of_none e hfp) (s3 _ _ (s2 _ _ e)), (t2.trans (.of_same s3)).trans t34, _, qs ++ [p], W4.at_, ?_, ?_, fun r => ?_, by rw [List.length_append, List.length_singleton]; omega⟩
      · unfold pgs
        rw [List.map_append]
        exact (KAll.keep t34 _ _ (hka.mono s3)).append (.cons hu4 .nil)
      · rw [List.nodup_append]
        exact ⟨hnd, by simp, fun a ha b hb => by rw [List.mem_singleton] at hb; subst hb; intro e; subst e; exact hnew ((hmem _).mp ha)⟩
      · rw [ht, List.mem_append, List.mem_append, hmem]
    · have hold : p ∈ ps.take i := by simpa using hb
      refine s_nil ?_
      refine ⟨⟨rfl, rfl, rfl⟩, s2.tr s3, t2.trans (.of_same s3), acc, qs, s3 _ _ hacc, hka.mono s3, hnd, fun r => ?_, by omega⟩
      rw [ht, List.mem_append, List.mem_singleton, hmem]
      exact ⟨.inl, fun h => h.elim id fun e => e ▸ hold⟩
  · rintro σ' H2 ⟨⟨sh0, sh1, sh2⟩, s2, t2, acc, qs, hacc, hka, hnd, hmem, hle⟩
    rw [lx, List.take_length] at hmem
    obtain ⟨qs2, e1, e2, e3⟩ := rank_sorted qs
    dsimp only
    refine s_retCB1 ?_
    refine ⟨_, sh2, ?_⟩
    refine ⟨fp, acc, pgs qs, rfl, rfl, .of hacc, hka, rank_UpN qs, fun p xs' H3 s3 hp e4 hk4 => ?_⟩
    rw [e1] at hk4
    refine ⟨p, xs', rfl, .inl ⟨.of e4, fun t ht => ?_⟩⟩
    exact q (.ref t) _ qs2 ((s2.tr s3).tr (.up ht)) (.tup upd_same (hk4.mono (.up ht))) (e2.nodup_iff.mpr hnd) (fun r => (e2.mem_iff).trans (hmem r)) e3
end
end CB
/-! CBQ1 -/
set_option Elab.async false
set_option autoImplicit false
set_option linter.all false
set_option maxRecDepth 100000
set_option maxHeartbeats 2000000
/-! The feed made; names, plainly. -/
namespace CB
open PySem PySem.Spec PyProof.Rows L2
open Evl (Ev EvT EvA EvO)
theorem seq_with {t1 t2 : TS} {D : Ends} {σ : L2.St} {H : Hp} (Good : L2.St → Hp → Prop) (k : ∀ σ H, Good σ H → t2 D σ H) (h : (∀ σ H, Good σ H → t2 D σ H) → t1 { D with nx := t2 D } σ H) : tSeq t1 t2 D σ H := h k
theorem cutV_ints (ns : List Int) (lo hi : Option Int) : ∃ ms : List Int, cutV (ns.map V.int) lo hi = ms.map V.int :=
  ⟨(ns.drop (HT.sIx ns.length 0 lo)).take (HT.sIx ns.length ns.length hi - HT.sIx ns.length 0 lo), by unfold cutV; rw [List.length_map, List.map_take, List.map_drop]⟩
section
variable {P : Program} {w : World} {K : PySem.W.Frag} {mg : Str → Option Value} {base : Heap} (T : Tp K mg)
include T
def spFeed (K : PySem.W.Frag) : Sp := fun vs H Q _ => ∃ (a : Addr) (ns : List Int), vs = [.ref a] ∧ SqL K H a (ns.map V.int) ∧ ∀ p c H', Same H H' → Feed H' p c 100000 → Q (.ref p) H'
theorem ok_feed : Ok P w K mg base 1 ("_law_feed", none) ["_law_script"] (spFeed K) := by
  refine ok_of T.f_l_feed c_l_feed (fun _ _ _ _ _ _ us hl => match us, hl with | [_], _ => rfl) (fun vs H Q E ⟨a, ns, e, _⟩ => by rw [e]; rfl) (fun cdv A outer s H vs Q E hr h => ?_)
  obtain ⟨a, ns, rfl, hs, q⟩ := h
  refine ⟨_, pss_one (ps_ret (pe_disp (pps_cons pe_str (pe_callTy call_list_of (by rfl) T.b_list boot_list (pa_cons (pe_slice sl_list (pv 0) po_none (po_some pe_int)) pa_nil))
    (pps_cons pe_str pe_int (pps_cons pe_str pe_int (pps_cons pe_str pe_int pps_nil)))) (by rfl) (by rfl) (fun z => by cases z) (by decide))), ?_⟩
  intro p hp
  refine (Evl.el_sl (K := K) (lo := none) (hi := some 63) (Evl.ev_var rfl) eo_non eo_int (sqL_same (Same.up hp) hs)) _ (Evl.Ex.refl _) _ fun b H2 hb s2 h2 => ?_
  obtain ⟨ms, em⟩ := cutV_ints ns none (some 63)
  rw [em] at h2
  refine ⟨b, _, rfl, .inl (.of h2), fun c hc => ?_⟩
  have hp2 : H2 p = some (.dK []) := s2 _ _ upd_same
  have hpc : p ≠ c := ne_of_none hp2 hc
  refine ⟨by rw [upd_ne hpc]; exact hp2, fkv c 0 0 0, rfl, Nat.le_of_ble_eq_true rfl, ?_⟩
  refine q p c _ ?_ ?_
  · intro d u e
    have n1 : d ≠ p := ne_of_none e hp
    have e2 : H2 d = some u := s2 _ _ (by rw [upd_ne n1]; exact e)
    rw [upd_ne n1, upd_ne (ne_of_none e2 hc)]
    exact e2
  · exact ⟨ms, 0, 0, 0, upd_same, by rw [upd_ne hpc.symm]; exact upd_same, by decide, by decide, by decide⟩
end
/-! names -/
def nmS (s : Str) : Prop := s.length ≤ 9 ∧ ∀ c ∈ s.cps.toList, c < 128
instance (s : Str) : Decidable (nmS s) := inferInstanceAs (Decidable (_ ∧ _))
structure NmOk (nm : List Str) : Prop where
  nd : nm.Nodup
  ok : ∀ s ∈ nm, nmS s
def someA : List Str := ["a", "ab", "abc", "b", "ba", "bab", "c", "ca", "zz"]
def someB : List Str := ["card", "cards", "visit", "house", "home", "part", "join", "mourn", "ahead"]
theorem someA_ok : NmOk someA := ⟨by decide +kernel, by decide +kernel⟩
theorem someB_ok : NmOk someB := ⟨by decide +kernel, by decide +kernel⟩
def abc : Str := "abcdefghijklmnopqrstuvwxyz"
theorem abc_len : abc.cps.toList.length = 26 := by decide +kernel
theorem abc_lt : ∀ c ∈ abc.cps.toList, c < 128 := by decide +kernel
theorem abc_nd : abc.cps.toList.Nodup := by decide +kernel
/-- the sign at this place -/
def sgn (i : Nat) : Nat := abc.cps.toList.getD i 0
theorem sgn_at {i : Nat} (h : i < 26) : abc.cps.toList[i]? = some (sgn i) := by
  have h' : i < abc.cps.toList.length := by rw [abc_len]; exact h
  unfold sgn
  rw [List.getD_eq_getElem?_getD, List.getElem?_eq_getElem h']; rfl
theorem sgn_lt {i : Nat} (h : i < 26) : sgn i < 128 := abc_lt _ (List.mem_of_getElem? (sgn_at h))
theorem sgn_inj {i j : Nat} (hi : i < 26) (hj : j < 26) (h : sgn i = sgn j) : i = j := by
  have h1 := sgn_at hi
  have h2 := sgn_at hj
  rw [h] at h1
  have hi' : i < abc.cps.toList.length := by rw [abc_len]; exact hi
  exact (List.getElem?_inj hi' abc_nd).mp (h1.trans h2.symm)
/-- one sign -/
def one (c : Nat) : Str := ⟨#[c]⟩
def nameAt (p s : Str) (c : Nat) : Str := p ++ one c ++ s
theorem cps_app (a b : Str) : (a ++ b).cps.toList = a.cps.toList ++ b.cps.toList := by
  show (a.cps ++ b.cps).toList = _
  simp
theorem len_cps (a : Str) : a.length = a.cps.toList.length := by
  show a.cps.size = _
  simp
theorem nameAt_inj {p s : Str} {c d : Nat} (h : nameAt p s c = nameAt p s d) : c = d := by
  have h1 := congrArg (fun x : Str => x.cps.toList) h
  simp only [nameAt, cps_app] at h1
  have h2 := List.append_cancel_right h1
  have h3 := List.append_cancel_left h2
  have h4 : [c] = [d] := h3
  injection h4
theorem nameAt_ok {p s : Str} {c : Nat} (hc : c < 128) (hl : p.length + s.length ≤ 8) (hp : ∀ c ∈ p.cps.toList, c < 128) (hs : ∀ c ∈ s.cps.toList, c < 128) : nmS (nameAt p s c) := by
  constructor
  · have e : (one c).cps.toList = [c] := rfl
    rw [len_cps] at hl ⊢
    rw [len_cps] at hl
    simp only [nameAt, cps_app, List.length_append, e, List.length_cons, List.length_nil]
    omega
  · intro x hx
    simp only [nameAt, cps_app, List.mem_append] at hx
    rcases hx with (hx | hx) | hx
    · exact hp x hx
    · have : x ∈ [c] := hx
      rw [List.mem_singleton.mp this]; exact hc
    · exact hs x hx
def signIx (first k : Nat) : Nat := (first + 5 * k) % 26
theorem signIx_inj {f i j : Nat} (hi : i < 9) (hj : j < 9) (h : signIx f i = signIx f j) : i = j := by
  unfold signIx at h
  omega
def namesC (p s : Str) (first : Nat) (n : Nat) : List Str := (List.range n).map fun k => nameAt p s (sgn (signIx first k))
theorem namesC_ok {p s : Str} {first n : Nat} (hn : n ≤ 9) (hl : p.length + s.length ≤ 8) (hp : ∀ c ∈ p.cps.toList, c < 128) (hs : ∀ c ∈ s.cps.toList, c < 128) : NmOk (namesC p s first n) := by
  have lt : ∀ k, signIx first k < 26 := fun k => Nat.mod_lt _ (by decide)
  constructor
  · unfold namesC
    refine List.Pairwise.map _ (fun i j hij => ?_) (List.pairwise_lt_range (n := n) |>.imp_of_mem fun {i j} hi hj h => (⟨List.mem_range.mp hi, List.mem_range.mp hj, h⟩ : i < n ∧ j < n ∧ i < j))
    intro e
    have h1 := signIx_inj (by omega) (by omega) (sgn_inj (lt _) (lt _) (nameAt_inj e))
    omega
  · intro x hx
    obtain ⟨k, _, rfl⟩ := List.mem_map.mp hx
    exact nameAt_ok (sgn_lt (lt k)) hl hp hs
theorem namesC_succ (p s : Str) (first n : Nat) : namesC p s first (n + 1) = namesC p s first n ++ [nameAt p s (sgn (signIx first n))] := by
  unfold namesC
  rw [List.range_succ, List.map_append]; rfl
theorem mem_cutS {z : Str} {lo hi : Option Int} {c : Nat} (h : c ∈ (cutS z lo hi).cps.toList) : c ∈ z.cps.toList := by
  unfold cutS at h
  exact List.mem_of_mem_drop (List.mem_of_mem_take (by simpa using h))
/-- the word without one sign -/
theorem cut_two (z : Str) (i : Nat) : (cutS z none (some (i : Nat))).length + (cutS z (some ((i : Int) + 1)) none).length ≤ z.length := by
  have e1 : HT.sIx z.length z.length (some ((i : Nat) : Int)) = min i z.length := HT.sIx_nat _ _ _
  have e2 : HT.sIx z.length 0 (some ((i : Int) + 1)) = min (i + 1) z.length := HT.sIx_nat _ _ (i + 1)
  have e3 : HT.sIx z.length 0 none = 0 := rfl
  have e4 : HT.sIx z.length z.length none = z.length := rfl
  have l : z.cps.toList.length = z.length := (len_cps z).symm
  rw [len_cps, len_cps]
  unfold cutS
  rw [e1, e2, e3, e4]
  simp only [List.length_take, List.length_drop, l]
  omega
end CB
/-! CBQ2 -/
set_option Elab.async false
set_option autoImplicit false
set_option linter.all false
set_option maxRecDepth 100000
set_option maxHeartbeats 2000000
/-! Names drawn. -/
namespace CB
open PySem PySem.Spec PyProof.Rows L2
open Evl (Ev EvT EvA EvO)
abbrev rAddS : R2 := fun x y H Q => ∃ i j, x = .str i ∧ y = .str j ∧ i.length + j.length ≤ sizeLine ∧ Q (.str (i ++ j)) H
section
variable {σ : L2.St} {H : Hp} {ta tb te : TE} {tl th : TO}
theorem ev_addS {a b : Str} (ha : Ev ta σ H (.str a)) (hb : Ev tb σ H (.str b)) (h : a.length + b.length ≤ 100000) : Ev (tOp rAddS ta tb) σ H (.str (a ++ b)) := fun H1 e Q q =>
  ha H1 e _ fun H2 e2 => hb H2 (e.trans e2) _ fun H3 e3 => ⟨a, b, rfl, rfl, Evl.sz_of h, q H3 (e2.trans e3)⟩
theorem ev_slS {z : Str} {lo hi : Option Int} (ha : Ev te σ H (.str z)) (h1 : EvO tl σ H lo) (h2 : EvO th σ H hi) (h : z.length ≤ 100000) : Ev (tSl rSlS te tl th) σ H (.str (cutS z lo hi)) := fun H1 e Q q =>
  ha H1 e _ fun H2 e2 => h1 H2 (e.trans e2) _ fun H3 e3 => h2 H3 ((e.trans e2).trans e3) _ fun H4 e4 => ⟨z, rfl, Evl.sz_of h, q H4 ((e2.trans e3).trans e4)⟩
end
theorem sum_ones : ∀ {ys : List Str}, (∀ y ∈ ys, y.length = 1) → (ys.map (·.length)).sum = ys.length
  | [], _ => rfl
  | y :: ys, h => by
    rw [List.map_cons, List.sum_cons, sum_ones fun z hz => h z (List.mem_cons_of_mem _ hz), h y List.mem_cons_self, List.length_cons]; omega
theorem join_small {ys : List Str} (h : ∀ y ∈ ys, y.length = 1 ∧ ∀ c ∈ y.cps.toList, c < 128) : (Txt.join "" ys).length ≤ ys.length ∧ ∀ c ∈ (Txt.join "" ys).cps.toList, c < 128 := by
  have e0 : Txt.join "" ys = Str.join "" ys := StrLaws.glued_eq_join "" ys
  rw [e0]
  constructor
  · have h1 := StrLaws.join_length_le "" ys
    have h2 : (ys.map (·.length)).sum = ys.length := sum_ones fun y hy => (h y hy).1
    have h3 : ("" : Str).length = 0 := rfl
    rw [h2, h3] at h1
    show (Str.join "" ys).length ≤ _
    omega
  · intro c hc
    rcases (mem_join "" c ys).mp hc with ⟨t, ht, hct⟩ | ⟨_, hct⟩
    · exact (h t ht).2 c hct
    · exact absurd hct (List.not_mem_nil)
theorem er_perm {α : Type} {l : List α} {i : Nat} (h : i < l.length) : (l[i] :: l.eraseIdx i).Perm l := by
  rw [List.eraseIdx_eq_take_drop_succ]
  refine List.perm_middle.symm.trans ?_
  rw [← List.drop_eq_getElem_cons h, List.take_append_drop]
theorem er_map {α β : Type} (f : α → β) : ∀ (l : List α) (i : Nat), (l.map f).eraseIdx i = (l.eraseIdx i).map f
  | [], _ => rfl
  | a :: l, 0 => rfl
  | a :: l, i + 1 => by
    rw [List.map_cons, List.eraseIdx_cons_succ, List.eraseIdx_cons_succ, List.map_cons, er_map f l i]
section
variable {P : Program} {w : World} {K : PySem.W.Frag} {mg : Str → Option Value} {base : Heap} (T : Tp K mg)
include T
def spNames : Sp := fun vs H Q _ => ∃ (f c : Addr) (m : Nat), vs = [.ref f] ∧ Feed H f c (m + 30) ∧ ∀ p H' (nm : List Str), NmOk nm → nm.length = 9 → Kp H H' f → Feed H' f c m → H' p = some (.lst (nm.map V.str)) → Q (.ref p) H'
theorem ok_l_names : Ok P w K mg base 2 ("_law_names", none) ["_law_feed_here"] spNames := by
  have G := ok_draw (P := P) (w := w) (base := base) T
  refine ok_of T.f_l_names c_l_names (fun _ _ _ _ _ _ us hl => match us, hl with | [_], _ => rfl) (fun vs H Q E ⟨f, c, m, e, _⟩ => by rw [e]; rfl) (fun cdv A outer s0 H vs Q E hr h => ?_)
  obtain ⟨f, c, m, rfl, F, q⟩ := h
  have hr1 : Room 1 _ := hr
  refine ⟨_, pss_cons (ps_set (i := 1) c_l_names.nd rfl (.inl rfl) (pe_fn G hr1 (by rfl) T.g_l_draw (pa_cons (pv 0) (pa_cons pe_int pa_nil))))
    (pss_cons (ps_set (i := 2) c_l_names.nd rfl (.inr rfl) (pe_lst (pa_cons pe_str (pa_cons pe_str (pa_cons pe_str (pa_cons pe_str (pa_cons pe_str (pa_cons pe_str (pa_cons pe_str (pa_cons pe_str (pa_cons pe_str pa_nil)))))))))))
    (pss_cons (ps_if (pt_cmpR op_eq (pv 1) pe_int (nomark _)) (pss_one (ps_set (i := 2) c_l_names.nd rfl (.inr rfl) (pe_lst (pa_cons pe_str (pa_cons pe_str (pa_cons pe_str (pa_cons pe_str (pa_cons pe_str (pa_cons pe_str (pa_cons pe_str (pa_cons pe_str (pa_cons pe_str pa_nil)))))))))))) pss_nil)
    (pss_cons (ps_if (pt_cmpR op_eq (pv 1) pe_int (nomark _))
      (pss_cons (ps_set (i := 3) c_l_names.nd rfl (.inr rfl) pe_str)
      (pss_cons (ps_par (i := 4) (j := 5) rfl c_l_names.nd rfl rfl (by decide) rfl rfl (pa_cons (pe_op op_add pe_int (pe_fn G hr1 (by rfl) T.g_l_draw (pa_cons (pv 0) (pa_cons pe_int pa_nil)))) (pa_cons (pe_fn G hr1 (by rfl) T.g_l_draw (pa_cons (pv 0) (pa_cons pe_int pa_nil))) pa_nil)) (by rfl))
      (pss_cons (ps_set (i := 6) c_l_names.nd rfl (.inl rfl) (pe_fn G hr1 (by rfl) T.g_l_draw (pa_cons (pv 0) (pa_cons (pv 4) pa_nil))))
      (pss_cons (ps_set (i := 8) c_l_names.nd rfl (.inl rfl) (pe_join pe_str (pe_lc (own := [("_law_k", 7)]) (g := gName 7) (te := tOp rIxS (tVar 3) (tCall spDraw [] E0 (tCons (tVar 0) (tCons (tC (.int 26)) tNil))))
        rfl c_l_names.nd (pi_range1 (by rfl) T.b_range (pa_cons (pv 4) pa_nil)) (blkOk_by (N := ["_law_feed_here", "_law_way", "_law_some", "_law_letters", "_law_size", "_law_first", "_law_at", "_law_k", "_law_word", "_law_sign"]) (sc := defScope s_l_names) (by decide +kernel)) (fun _ _ _ _ _ => pg_name (i := 7) c_l_names.nd rfl (.inl rfl))
        (fun _ _ _ _ _ => pts_nil) (fun _ _ _ _ _ => pe_ix ix_str (pv 3) (pe_fn G hr1 (by rfl) T.g_l_draw (pa_cons (pv 0) (pa_cons pe_int pa_nil))) (fun _ _ => rfl)))))
      (pss_cons (ps_set (i := 2) c_l_names.nd rfl (.inr rfl) (pe_lst pa_nil))
      (pss_one (ps_for .never rfl (pi_range1 (by rfl) T.b_range (pa_cons pe_int pa_nil)) (pg_name (i := 7) c_l_names.nd rfl (.inl rfl))
        (pss_cons (ps_set (i := 9) c_l_names.nd rfl (.inl rfl) (pe_ix ix_str (pv 3) (pe_op op_mod (pe_op op_add (pv 5) (pe_op op_mul pe_int (pv 7))) pe_int) (fun _ _ => rfl)))
        (pss_one (ps_expr (pe_bm PySem.F.plainAttrs_list PySem.F.slot_list_append PySem.F.type_list_append mt_append (pv 2) (pa_cons (pe_op op_add_str (pe_op op_add_str (pe_slice sl_str (pv 8) po_none (po_some (pv 6))) (pv 9)) (pe_slice sl_str (pv 8) (po_some (pe_op op_add (pv 6) pe_int)) po_none)) pa_nil)))))))))))) pss_nil)
    (pss_one (ps_ret (pe_lc (own := [("_law_k", 7)]) (g := gName 7) (te := tBM K "list" rPopAt (tVar 2) (tCons (tCall spDraw [] E0 (tCons (tVar 0) (tCons (tCB (rLen0 K) (tCons (tVar 2) tNil)) tNil))) tNil))
        rfl c_l_names.nd (pi_range1 (by rfl) T.b_range (pa_cons pe_int pa_nil)) (blkOk_by (N := ["_law_feed_here", "_law_way", "_law_some", "_law_letters", "_law_size", "_law_first", "_law_at", "_law_k", "_law_word", "_law_sign"]) (sc := defScope s_l_names) (by decide +kernel)) (fun _ _ _ _ _ => pg_name (i := 7) c_l_names.nd rfl (.inl rfl))
        (fun _ _ _ _ _ => pts_nil) (fun _ _ _ _ _ => pe_bm PySem.F.plainAttrs_list PySem.F.slot_list_pop PySem.F.type_list_pop mt_popAt (pv 2) (pa_cons (pe_fn G hr1 (by rfl) T.g_l_draw (pa_cons (pv 0) (pa_cons (pe_callB call_len_seq (by rfl) T.b_len PySem.boot_len (pa_cons (pv 2) pa_nil)) pa_nil))) pa_nil)))))))), ?_⟩
  refine rd_draw (m := m + 29) (Evl.ev_var rfl) Evl.ev_c (by decide) (by decide) F fun way H1 hw0 hw1 k1 F1 => ?_
  dsimp only
  refine s_asgLK (ks := someA.map NestedKey.text) (el_lstK (eks_cons ek_str (eks_cons ek_str (eks_cons ek_str (eks_cons ek_str (eks_cons ek_str (eks_cons ek_str (eks_cons ek_str (eks_cons ek_str (eks_cons ek_str eks_nil)))))))))) fun lp xs H2 hlp s2 hl2 hk2 => ?_
  obtain rfl := kall_texts hk2
  dsimp only
  have no1 : ∀ {b : Addr}, H1 b = none → b ≠ f → H b = none := fun {b} h hb => by
    cases e : H b with
    | none => rfl
    | some o => rw [k1 b o hb e] at h; cases h
  have lf := F1.fresh hlp
  refine seq_with (fun σ' H' => (σ'.length = 10 ∧ σ'[0]? = some (some (.ref f)) ∧ σ'[1]? = some (some (.int way))) ∧ ∃ l nm, σ'[2]? = some (some (.ref l)) ∧ H' l = some (.lst (nm.map V.str)) ∧ NmOk nm ∧ nm.length = 9 ∧ H l = none ∧ (l ≠ f ∧ l ≠ c) ∧ Kp H H' f ∧ Feed H' f c (m + 29)) ?_ fun nx1 => ?_
  case refine_2 =>
    refine Evl.s_if (et_T (eb_eqI (Evl.ev_var rfl) Evl.ev_c)) (fun hb H3 s3 => ?_) (fun hb H3 s3 => ?_)
    · refine s_asgLK (ks := someB.map NestedKey.text) (el_lstK (eks_cons ek_str (eks_cons ek_str (eks_cons ek_str (eks_cons ek_str (eks_cons ek_str (eks_cons ek_str (eks_cons ek_str (eks_cons ek_str (eks_cons ek_str eks_nil)))))))))) fun lp2 xs2 H4 hlp4 s4 hl4 hk4 => ?_
      obtain rfl := kall_texts hk4
      have s24 : Same H1 H4 := s2.tr (s3.tr s4)
      have F3 := F1.same (s2.tr s3)
      refine nx1 _ _ ⟨⟨rfl, rfl, rfl⟩, lp2, someB, rfl, hl4, someB_ok, rfl, no1 ((s2.tr s3).no hlp4) (F3.fresh hlp4).1, F3.fresh hlp4, k1.post s24, F1.same s24⟩
    · refine s_nil ?_
      have s23 : Same H1 H3 := s2.tr s3
      exact nx1 _ _ ⟨⟨rfl, rfl, rfl⟩, lp, someA, rfl, s3 _ _ hl2, someA_ok, rfl, no1 hlp lf.1, lf, k1.post s23, F1.same s23⟩
  rintro σ' H3 ⟨⟨sh, z0, z1⟩, l, nm, z2, hl, hok, hlen, hno, hlf, k3, F3⟩
  obtain ⟨σ0, σ1, σ2, σ3, σ4, σ5, σ6, σ7, σ8, σ9, rfl⟩ : ∃ a b c d e f g h i j, σ' = [a, b, c, d, e, f, g, h, i, j] := by
    match σ', sh with
    | [a, b, c, d, e, f, g, h, i, j], _ => exact ⟨a, b, c, d, e, f, g, h, i, j, rfl⟩
  cases z0; cases z1; cases z2
  refine seq_with (fun σ' H' => (σ'.length = 10 ∧ σ'[0]? = some (some (.ref f))) ∧ ∃ l nm, σ'[2]? = some (some (.ref l)) ∧ H' l = some (.lst (nm.map V.str)) ∧ NmOk nm ∧ nm.length = 9 ∧ H l = none ∧ (l ≠ f ∧ l ≠ c) ∧ Kp H H' f ∧ Feed H' f c (m + 9)) ?_ fun nx2 => ?_
  case refine_1 =>
    clear hl hok hlen hno hlf k3 F3 hl2 s2 hk2 lf hlp
    rintro σ' H4 ⟨⟨sh, z0⟩, l, nm, z2, hl, hok, hlen, hno, hlf, k3, F3⟩
    obtain ⟨σ0, σ1, σ2, σ3, σ4, σ5, σ6, σ7, σ8, σ9, rfl⟩ : ∃ a b c d e f g h i j, σ' = [a, b, c, d, e, f, g, h, i, j] := by
      match σ', sh with
      | [a, b, c, d, e, f, g, h, i, j], _ => exact ⟨a, b, c, d, e, f, g, h, i, j, rfl⟩
    cases z0; cases z2
    refine lc_rng (J := fun D i acc H' => D ≠ f ∧ D ≠ c ∧ D ≠ l ∧ H D = none ∧ Kp H H' f ∧ Feed H' f c (m + (9 - i)) ∧ ∃ got rest : List Str, acc = got.map V.str ∧ H' l = some (.lst (rest.map V.str)) ∧ (got ++ rest).Perm nm ∧ got.length = i) (n := 9) (by decide) (Evl.ea_cons Evl.ev_c Evl.ea_nil) (fun D H5 s5 hD => ?_) (fun D i acc H5 hi la hD hj Y N hY hN => ?_) fun D acc H5 hD la hj => ?_
    · have F5 := F3.same s5
      obtain ⟨n1, n2⟩ := F5.fresh hD
      have hl5 := s5 _ _ hl
      have n3 : l ≠ D := ne_of_none hl5 hD
      have k5 := k3.post s5
      have hD0 : H D = none := by
        cases e : H D with
        | none => rfl
        | some o => rw [k5 D o n1 e] at hD; cases hD
      refine ⟨n1, n2, n3.symm, hD0, fun b u hb e => (by rw [upd_ne (ne_of_none e hD0)]; exact k5 b u hb e), F5.upd n1 n2, [], nm, rfl, by rw [upd_ne n3]; exact hl5, .refl _, rfl⟩
    · obtain ⟨n1, n2, n3, hD0, k5, F5, got, rest, rfl, hl5, pm, lg⟩ := hj
      have lr : rest.length = 9 - i := by
        have := pm.length_eq
        rw [List.length_append, hlen] at this
        omega
      have ll : (rest.map V.str).length = rest.length := List.length_map _
      refine ⟨rfl, ?_⟩
      unfold tYes
      dsimp only
      rw [if_pos rfl]
      refine ⟨_, rfl, .inl ⟨rfl, _, .of hl5⟩, ?_⟩
      refine rd_draw (m := m + (9 - (i + 1))) (many := (((rest.map V.str).length : Nat) : Int)) (Evl.ev_var rfl) (ev_lenAt (Evl.ev_var rfl) (.of hl5)) (by rw [ll]; omega) (by rw [ll]; omega) (F5.le (by omega)) fun r H6 hr0 hr1 k6 F6 => ?_
      have hl6 := k6 l _ hlf.1 hl5
      have hD6 := k6 D _ n1 hD
      rw [ll] at hr1
      have hk : r.toNat < rest.length := by omega
      refine ⟨l, _, r, r.toNat, .str rest[r.toNat], rfl, rfl, hl6, by omega, by omega, seqIndex_of hr0 (by rw [ll]; exact hr1), by rw [List.getElem?_map, List.getElem?_eq_getElem hk]; rfl, ?_⟩
      have cl : ∀ x : Addr, H x = none → x = l ∨ H x = none := fun x h => .inr h
      refine hY _ _ (by rw [upd_ne n3]; exact hD6) ⟨n1, n2, n3, hD0, fun b u hb e => ?_, ?_, got ++ [rest[r.toNat]], rest.eraseIdx r.toNat, ?_, ?_, ?_, by rw [List.length_append, lg]; rfl⟩
      · rw [upd_ne (ne_of_none e hD0), upd_ne (ne_of_none e hno)]
        exact k6 b u hb (k5 b u hb e)
      · exact (F6.upd hlf.1 hlf.2).upd n1 n2
      · rw [List.map_append]; rfl
      · rw [upd_ne n3.symm, upd_same, er_map]
      · have p1 := er_perm hk
        refine List.Perm.trans ?_ pm
        rw [List.append_assoc]
        exact List.Perm.append_left got p1
    · obtain ⟨n1, n2, n3, hD0, k5, F5, got, rest, rfl, hl5, pm, lg⟩ := hj
      have hr0 : rest = [] := by
        have := pm.length_eq
        rw [List.length_append, hlen] at this
        exact List.eq_nil_of_length_eq_zero (by omega)
      subst hr0
      rw [List.append_nil] at pm
      exact q D _ got ⟨pm.nodup_iff.mpr hok.nd, fun s hs => hok.ok s (pm.mem_iff.mp hs)⟩ lg k5 (F5.le (by omega)) hD
  refine Evl.s_if (et_T (eb_eqI (Evl.ev_var rfl) Evl.ev_c)) (fun hb H4 s4 => ?_) (fun hb H4 s4 => ?_)
  rotate_left
  · refine s_nil ?_
    exact nx2 _ _ ⟨⟨rfl, rfl⟩, l, nm, rfl, s4 _ _ hl, hok, hlen, hno, hlf, k3.post s4, (F3.same s4).le (by omega)⟩
  refine Evl.s_asg Evl.ev_c fun H5 s5 => ?_
  have F5 := F3.same (s4.tr s5)
  have k5 := k3.post (s4.tr s5)
  dsimp only
  refine rd_draw (m := m + 28) (many := 8) (Evl.ev_var rfl) Evl.ev_c (by decide) (by decide) F5 fun sz H6 hz0 hz1 k6 F6 => ?_
  refine ⟨1, sz, rfl, rfl, ?_⟩
  refine rd_draw (m := m + 27) (many := 26) (Evl.ev_var rfl) Evl.ev_c (by decide) (by decide) F6 fun fs H7 hf0 hf1 k7 F7 => ?_
  refine ⟨_, _, rfl, ?_⟩
  obtain ⟨fn, rfl⟩ : ∃ n : Nat, fs = (n : Int) := ⟨fs.toNat, by omega⟩
  obtain ⟨z, hz⟩ : ∃ z : Nat, (1 : Int) + sz = (z : Int) := ⟨(1 + sz).toNat, by omega⟩
  dsimp only
  rw [hz]
  refine rd_draw (m := m + 26) (many := (z : Int)) (Evl.ev_var rfl) (Evl.ev_var rfl) (by omega) (by omega) F7 fun at_ H8 ha0 ha1 k8 F8 => ?_
  obtain ⟨an, rfl⟩ : ∃ n : Nat, at_ = (n : Int) := ⟨at_.toNat, by omega⟩
  have k08 : Kp H H8 f := ((k5.tr k6).tr k7).tr k8
  dsimp only
  refine ⟨⟨_, rfl⟩, ?_⟩
  refine lc_rng (J := fun D i acc H' => D ≠ f ∧ D ≠ c ∧ H D = none ∧ Kp H H' f ∧ Feed H' f c (m + 9 + (8 - i)) ∧ ∃ ys : List Str, acc = ys.map V.str ∧ ∀ y ∈ ys, y.length = 1 ∧ ∀ c ∈ y.cps.toList, c < 128) (n := z) (by omega) (Evl.ea_cons (Evl.ev_var rfl) Evl.ea_nil) (fun D H9 s9 hD => ?_) (fun D i acc H9 hi la hD hj Y N hY hN => ?_) fun D acc H9 hD la hj => ?_
  · have F9 := F8.same s9
    obtain ⟨n1, n2⟩ := F9.fresh hD
    have k9 := k08.post s9
    have hD0 : H D = none := by
      cases e : H D with
      | none => rfl
      | some o => rw [k9 D o n1 e] at hD; cases hD
    exact ⟨n1, n2, hD0, fun b u hb e => (by rw [upd_ne (ne_of_none e hD0)]; exact k9 b u hb e), (F9.upd n1 n2).le (by omega), [], rfl, fun y h => (nomatch h)⟩
  · obtain ⟨n1, n2, hD0, k9, F9, ys, rfl, hys⟩ := hj
    refine ⟨rfl, ?_⟩
    unfold tYes
    dsimp only
    rw [if_pos rfl]
    refine ⟨_, rfl, ?_⟩
    refine rd_draw (m := m + 9 + (8 - (i + 1))) (many := 26) (Evl.ev_var rfl) Evl.ev_c (by decide) (by decide) (F9.le (by omega)) fun r H10 hr0 hr1 k10 F10 => ?_
    obtain ⟨rn, rfl⟩ : ∃ n : Nat, r = (n : Int) := ⟨r.toNat, by omega⟩
    have hD10 := k10 D _ n1 hD
    refine ⟨_, _, sgn rn, rfl, rfl, Nat.le_of_ble_eq_true rfl, atI_nat (sgn_at (by omega)), hY _ _ hD10 ⟨n1, n2, hD0, fun b u hb e => ?_, F10.upd n1 n2, ys ++ [one (sgn rn)], by rw [List.map_append]; rfl, fun y hy => ?_⟩⟩
    · rw [upd_ne (ne_of_none e hD0)]; exact k10 b u hb (k9 b u hb e)
    · rcases List.mem_append.mp hy with hy | hy
      · exact hys y hy
      · rw [List.mem_singleton.mp hy]
        refine ⟨rfl, fun c hc => ?_⟩
        have hc' : c ∈ [sgn rn] := hc
        rw [List.mem_singleton.mp hc']
        exact sgn_lt (by omega)
  · obtain ⟨n1, n2, hD0, k9, F9, ys, rfl, hys⟩ := hj
    rw [List.length_map] at la
    obtain ⟨j1, j2⟩ := join_small hys
    have jl : (ys.map (·.length)).sum ≤ 8 := by
      have h2 : (ys.map (·.length)).sum = ys.length := sum_ones fun y hy => (hys y hy).1
      omega
    refine ⟨_, D, ys, rfl, rfl, .inl (.of hD), by
      have : ("" : Str).length = 0 := rfl
      rw [this]; omega, ?_⟩
    have jz : (Txt.join "" ys).length ≤ 8 := by omega
    generalize Txt.join "" ys = word at j1 j2 jz
    dsimp only
    have F9' : Feed H9 f c (m + 9) := F9.le (by omega)
    refine s_asgLK (ks := []) (el_lstK eks_nil) fun lp3 xs3 H10 hlp3 s10 hl10 hk10 => ?_
    cases hk10
    obtain ⟨n3, n4⟩ := F9'.fresh hlp3
    have hl0 : H lp3 = none := by
      cases e : H lp3 with
      | none => rfl
      | some o => rw [k9 lp3 o n3 e] at hlp3; cases hlp3
    dsimp only
    refine Evl.s_forR1 (n := 9) (Evl.ea_cons Evl.ev_c Evl.ea_nil) (by decide) (fun i σ' H' => (σ'.length = 10 ∧ σ'[0]? = some (some (.ref f)) ∧ σ'[2]? = some (some (.ref lp3)) ∧ σ'[3]? = some (some (.str abc)) ∧ σ'[5]? = some (some (.int (fn : Int))) ∧ σ'[6]? = some (some (.int (an : Int))) ∧ σ'[8]? = some (some (.str word))) ∧ Kp H H' f ∧ Feed H' f c (m + 9) ∧ H' lp3 = some (.lst ((namesC (cutS word none (some (an : Int))) (cutS word (some ((an : Int) + 1)) none) fn i).map V.str)))
      (fun H11 s11 => ⟨⟨rfl, rfl, rfl, rfl, rfl, rfl, rfl⟩, k9.post (s10.tr s11), F9'.same (s10.tr s11), s11 _ _ hl10⟩) ?_ ?_
    · rintro i σ' H11 hi ⟨⟨sh, z0, z2, z3, z5, z6, z8⟩, k11, F11, hl11⟩
      obtain ⟨σ0, σ1, σ2, σ3, σ4, σ5, σ6, σ7, σ8, σ9, rfl⟩ : ∃ a b c d e f g h i j, σ' = [a, b, c, d, e, f, g, h, i, j] := by
        match σ', sh with
        | [a, b, c, d, e, f, g, h, i, j], _ => exact ⟨a, b, c, d, e, f, g, h, i, j, rfl⟩
      cases z0; cases z2; cases z3; cases z5; cases z6; cases z8
      have ei : ((fn : Int) + 5 * (i : Int)) % 26 = ((signIx fn i : Nat) : Int) := by unfold signIx; omega
      have hs26 : signIx fn i < 26 := Nat.mod_lt _ (by decide)
      refine Evl.s_asg (v := .str (one (sgn (signIx fn i)))) (Evl.ev_op (Evl.ev_var rfl) (ev_mod (ev_add (Evl.ev_var rfl) (ev_mul Evl.ev_c (Evl.ev_var rfl) (.inl ⟨by decide, by decide⟩))) Evl.ev_c (by decide)) (Evl.rv_ixS (Nat.le_of_ble_eq_true rfl) (by rw [ei]; exact atI_nat (sgn_at hs26)))) fun H12 s12 => ?_
      dsimp only
      have c2 := cut_two word an
      have o1 : (one (sgn (signIx fn i))).length = 1 := rfl
      have a1 : ∀ a b : Str, (a ++ b).length = a.length + b.length := fun a b => by rw [len_cps, cps_app, List.length_append, ← len_cps, ← len_cps]
      refine Evl.s_app (v := .str (nameAt (cutS word none (some (an : Int))) (cutS word (some ((an : Int) + 1)) none) (sgn (signIx fn i)))) (s12 _ _ hl11) (Evl.ev_var rfl)
        (ev_addS (ev_addS (ev_slS (Evl.ev_var rfl) eo_non (Evl.eo_some (Evl.ev_var rfl)) (by omega)) (Evl.ev_var rfl) (by rw [o1]; omega)) (ev_slS (Evl.ev_var rfl) (Evl.eo_some (ev_add (Evl.ev_var rfl) Evl.ev_c)) eo_non (by omega)) (by rw [a1, o1]; omega))
        (by rw [List.length_map]; unfold namesC; rw [List.length_map, List.length_range]; omega) fun H13 s13 => ?_
      have s1213 := s12.tr s13
      refine ⟨⟨rfl, rfl, rfl, rfl, rfl, rfl, rfl⟩, fun b u hb e => ?_, (F11.same s1213).upd n3 n4, ?_⟩
      · rw [upd_ne (ne_of_none e hl0)]; exact s1213 _ _ (k11 b u hb e)
      · rw [upd_same, namesC_succ, List.map_append]; rfl
    · rintro σ' H11 ⟨⟨sh, z0, z2, z3, z5, z6, z8⟩, k11, F11, hl11⟩
      refine nx2 _ _ ⟨⟨sh, z0⟩, lp3, _, z2, hl11, namesC_ok (by decide) (by have := cut_two word an; omega) (fun c hc => j2 c (mem_cutS hc)) (fun c hc => j2 c (mem_cutS hc)), by unfold namesC; rw [List.length_map, List.length_range]; rfl, hl0, ⟨n3, n4⟩, k11, F11⟩
end
end CB
/-! CBQ3 -/
set_option Elab.async false
set_option autoImplicit false
set_option linter.all false
set_option maxRecDepth 100000
set_option maxHeartbeats 2000000
/-! A page drawn. -/
namespace CB
open PySem PySem.Spec PyProof.Rows L2
open Evl (Ev EvT EvA EvO)
/-- a page of these names, as they are drawn -/
def Pg.fine (nm : List Str) : Pg → Prop
  | .house _ a h | .home _ a h => a ∈ nm ∧ homeOk h
  | .part _ a b h => a ∈ nm ∧ b ∈ nm ∧ a ≠ b ∧ homeOk h
  | .mourn _ a m => a ∈ nm ∧ 1 ≤ m ∧ m ≤ 60
  | .join _ a b | .ahead _ a b | .card _ a b | .visit _ a b => a ∈ nm ∧ b ∈ nm ∧ a ≠ b
abbrev rInt1 : List V → Hp → VK → Prop := fun xs H Q => (∃ i, xs = [.int i] ∧ Q (.int i) H) ∨ ∃ k, xs = [.bl k] ∧ Q (.int (if k then 1 else 0)) H
section
variable {K : PySem.W.Frag} {σ : L2.St} {H : Hp} {ta tb te : TE} {ks : List NestedKey} {k : NestedKey}
theorem ek_ixL {i : Int} (ha : EvLK ta σ H ks) (hb : Ev tb σ H (.int i)) (h : atI ks i = some k) : EvK (tOp (rIxL K) ta tb) σ H k := fun H1 e Q q =>
  ha H1 e _ fun p xs H2 hp e2 h1 h2 => hb H2 (e.tr e2) _ fun H3 e3 => by
    obtain ⟨v, h3, h4⟩ := kall_atI h2 h
    exact ⟨p, xs, i, v, rfl, rfl, .of (e3 _ _ h1), h3, q v H3 (e2.tr e3) (h4.mono e3)⟩
theorem rd_home {f c : Addr} {m : Nat} {Q : VK} (h0 : Ev te σ H (.ref f)) (F : Feed H f c (m + 8)) (q : ∀ v H' l, KAt H' v (.tup (nums l)) → homeOk l → Kp H H' f → Feed H' f c m → Q v H') : tCall spLHome [] E0 (tCons te tNil) σ H Q :=
  (Evl.ea_cons h0 Evl.ea_nil) H (Evl.Ex.refl _) _ fun H1 s1 => ⟨f, c, m, rfl, F.same s1, fun v H' l a b k F' => q v H' l a b (Kp.pre s1 k) F'⟩
theorem ev_int1 {b : Bool} (h : Ev te σ H (.bl b)) : Ev (tCB rInt1 (tCons te tNil)) σ H (.int (if b then 1 else 0)) := fun H1 e Q q =>
  h H1 e _ fun H2 e2 => .inr ⟨b, rfl, q H2 e2⟩
end
section
variable {P : Program} {w : World} {K : PySem.W.Frag} {mg : Str → Option Value} {base : Heap} (T : Tp K mg)
include T
def spPage : Sp := fun vs H Q _ => ∃ (f c n : Addr) (m : Nat) (nm : List Str) (day : Int), vs = [.ref f, .ref n, .int day] ∧ Feed H f c (m + 13) ∧ H n = some (.lst (nm.map V.str)) ∧ nm.Nodup ∧ 2 ≤ nm.length ∧ nm.length ≤ 9 ∧
  ∀ v H' (p : Pg), KAt H' v p.key → p.day = day → p.fine nm → Kp H H' f → Feed H' f c m → Q v H'
theorem ok_l_page : Ok P w K mg base 3 ("_law_page", none) ["_law_feed_here", "_law_names_here", "_law_day"] spPage := by
  have G := ok_draw (P := P) (w := w) (base := base) T
  have G2 := ok_l_home (P := P) (w := w) (base := base) T
  refine ok_of T.f_l_page c_l_page (fun _ _ _ _ _ _ us hl => match us, hl with | [_, _, _], _ => rfl) (fun vs H Q E ⟨f, c, n, m, nm, day, e, _⟩ => by rw [e]; rfl) (fun cdv A outer s0 H vs Q E hr h => ?_)
  obtain ⟨f, c, n, m, nm, day, rfl, F, hn, hnd, hl2, hl9, q⟩ := h
  have hr2 : Room 2 _ := hr
  have hr1 := hr2.mono (by decide : 1 ≤ 2)
  have nf : n ≠ f := fun z => by
    obtain ⟨ns, a, l, t, e1, e2, e3⟩ := F
    rw [z, e1] at hn; cases hn
  refine ⟨_, pss_cons (ps_set (i := 3) c_l_page.nd rfl (.inl rfl) (pe_fn G hr1 (by rfl) T.g_l_draw (pa_cons (pv 0) (pa_cons (pe_callB call_len_seq (by rfl) T.b_len PySem.boot_len (pa_cons (pv 1) pa_nil)) pa_nil))))
    (pss_cons (ps_par (i := 4) (j := 5) rfl c_l_page.nd rfl rfl (by decide) rfl rfl (pa_cons (pe_ix ix_list (pv 1) (pv 3) (fun _ _ => rfl)) (pa_cons (pe_ix ix_list (pv 1) (pe_op op_mod (pe_op op_add (pe_op op_add (pv 3) pe_int) (pe_fn G hr1 (by rfl) T.g_l_draw (pa_cons (pv 0) (pa_cons (pe_op op_sub (pe_callB call_len_seq (by rfl) T.b_len PySem.boot_len (pa_cons (pv 1) pa_nil)) pe_int) pa_nil)))) (pe_callB call_len_seq (by rfl) T.b_len PySem.boot_len (pa_cons (pv 1) pa_nil))) (fun _ _ => rfl)) pa_nil)) (by rfl))
    (pss_cons (ps_set (i := 6) c_l_page.nd rfl (.inl rfl) (pe_fn G hr1 (by rfl) T.g_l_draw (pa_cons (pv 0) (pa_cons pe_int pa_nil))))
    (pss_cons (ps_if (pt_cmpR op_lt (pv 6) pe_int (nomark _))
      (pss_cons (ps_par (i := 7) (j := 8) rfl c_l_page.nd rfl rfl (by decide) rfl rfl (pa_cons (pe_fn G2 hr2 (by rfl) T.g_l_home (pa_cons (pv 0) pa_nil)) (pa_cons (pe_op op_add pe_int (pe_fn G hr1 (by rfl) T.g_l_draw (pa_cons (pv 0) (pa_cons (pe_ix ix_list (pe_lst (pa_cons pe_int (pa_cons pe_int pa_nil))) (pe_fn G hr1 (by rfl) T.g_l_draw (pa_cons (pv 0) (pa_cons pe_int pa_nil))) (fun _ _ => rfl)) pa_nil)))) pa_nil)) (by rfl))
      (pss_cons (ps_if (pt_cmpR op_eq (pv 6) pe_int (nomark _)) (pss_one (ps_ret (pe_tup (pa_cons pe_str (pa_cons (pv 2) (pa_cons (pv 4) (pa_cons (pv 5) (pa_cons (pv 7) pa_nil)))))))) pss_nil)
      (pss_one (ps_ret (pe_tup (pa_cons (pe_ix ix_list (pe_lst (pa_cons pe_str (pa_cons pe_str (pa_cons pe_str (pa_cons pe_str (pa_cons pe_str (pa_cons pe_str pa_nil))))))) (pv 6) (fun _ _ => rfl)) (pa_cons (pv 2) (pa_cons (pv 4)
        (pa_cons (pe_ix ix_list (pe_lst (pa_cons (pv 7) (pa_cons (pv 4) (pa_cons (pv 5) (pa_cons (pv 7) (pa_cons (pv 8) (pa_cons (pv 5) pa_nil))))))) (pv 6) (fun _ _ => rfl)) pa_nil))))))))) pss_nil)
    (pss_one (ps_ret (pe_tup (pa_cons (pe_ix ix_list (pe_lst (pa_cons pe_str (pa_cons pe_str pa_nil))) (pe_callTy call_int1 (by rfl) T.b_int PyProof.Rows.boot_int (pa_cons (pe_cmpR op_gt (pv 6) pe_int (nomark _)) pa_nil)) (fun _ _ => rfl)) (pa_cons (pv 2) (pa_cons (pv 4) (pa_cons (pv 5) pa_nil)))))))))), ?_⟩
  have lm : (nm.map V.str).length = nm.length := List.length_map _
  refine rd_draw (m := m + 12) (many := (((nm.map V.str).length : Nat) : Int)) (Evl.ev_var rfl) (ev_lenAt (Evl.ev_var rfl) (.of hn)) (by rw [lm]; omega) (by rw [lm]; omega) F fun r H1 r0 r1 k1 F1 => ?_
  rw [lm] at r1
  obtain ⟨rn, rfl⟩ : ∃ n : Nat, r = (n : Int) := ⟨r.toNat, by omega⟩
  have hn1 := k1 n _ nf hn
  have hra : rn < nm.length := by omega
  dsimp only
  refine ⟨.ref n, rfl, .int rn, rfl, n, nm.map V.str, rn, .str nm[rn], rfl, rfl, .of hn1, atI_nat (by rw [List.getElem?_map, List.getElem?_eq_getElem hra]; rfl), ?_⟩
  refine ⟨.ref n, rfl, .int rn, rfl, _, _, rfl, rfl, ?_⟩
  refine rd_draw (m := m + 11) (many := (((nm.map V.str).length : Nat) : Int) - 1) (Evl.ev_var rfl) (Evl.ev_op (ev_lenAt (Evl.ev_var rfl) (.of hn1)) Evl.ev_c Evl.rv_I0) (by rw [lm]; omega) (by rw [lm]; omega) F1 fun s H2 s0 s1 k2 F2 => ?_
  rw [lm] at s1
  obtain ⟨sn, rfl⟩ : ∃ n : Nat, s = (n : Int) := ⟨s.toNat, by omega⟩
  have hn2 := k2 n _ nf hn1
  refine ⟨_, _, rfl, rfl, ?_⟩
  refine (ev_lenAt (K := K) (a := n) (Evl.ev_var rfl) (.of hn2)) _ (Evl.Ex.refl _) _ fun H3 s3 => ?_
  rw [lm]
  have e2 : ((rn : Int) + 1 + (sn : Int)) % (nm.length : Int) = (((rn + 1 + sn) % nm.length : Nat) : Int) := by
    rw [Int.natCast_emod]; simp
  have hb : (rn + 1 + sn) % nm.length < nm.length := Nat.mod_lt _ (by omega)
  have hne : (rn + 1 + sn) % nm.length ≠ rn := by
    intro z
    by_cases h : rn + 1 + sn < nm.length
    · rw [Nat.mod_eq_of_lt h] at z; omega
    · rw [Nat.mod_eq_sub_mod (by omega), Nat.mod_eq_of_lt (by omega)] at z; omega
  generalize hj : (rn + 1 + sn) % nm.length = j at e2 hb hne
  refine ⟨_, _, rfl, rfl, (by omega : (0 : Int) < (nm.length : Int)), ?_⟩
  have hn3 := s3 _ _ hn2
  refine ⟨n, nm.map V.str, _, .str nm[j], rfl, rfl, .of hn3, by rw [e2]; exact atI_nat (by rw [List.getElem?_map, List.getElem?_eq_getElem hb]; rfl), ?_⟩
  refine ⟨_, _, rfl, ?_⟩
  have ha_m : nm[rn] ∈ nm := List.getElem_mem hra
  have hb_m : nm[j] ∈ nm := List.getElem_mem hb
  have hab : nm[rn] ≠ nm[j] := fun z => hne ((List.getElem_inj hnd).mp z).symm
  generalize nm[rn] = a at ha_m hab
  generalize nm[j] = b at hb_m hab
  have k3 : Kp H H3 f := (k1.tr k2).post s3
  have F3 : Feed H3 f c (m + 11) := F2.same s3
  dsimp only
  refine rd_draw (m := m + 10) (many := 16) (Evl.ev_var rfl) Evl.ev_c (by decide) (by decide) F3 fun way H4 w0 w1 k4 F4 => ?_
  have k04 := k3.tr k4
  dsimp only
  refine Evl.s_if (et_T (eb_ltI (Evl.ev_var rfl) Evl.ev_c)) (fun hb H5 s5 => ?_) (fun hb H5 s5 => ?_)
  rotate_left
  · refine s_nil ?_
    have k5 := k04.post s5
    have F5 := F4.same s5
    have bi := fun {σ : L2.St} (h6 : σ[6]? = some (some (.int way))) => ev_int1 (b := decide (8 < way)) (H := H5) (eb_gtI (ta := tVar 6) (tb := tC (.int 8)) (Evl.ev_var h6) Evl.ev_c)
    by_cases h8 : 8 < way
    · refine s_retK (k := (Pg.visit day a b).key) (ek_tup (eks_cons (ek_ixL (i := 1) (ks := [.text "card", .text "visit"]) (el_lstK (eks_cons ek_str (eks_cons ek_str eks_nil))) (Evl.ev_is (ev_int1 (eb_gtI (Evl.ev_var rfl) Evl.ev_c)) (by simp [h8])) rfl) (eks_cons (ek_num (Evl.ev_var rfl)) (eks_cons (ek_text (Evl.ev_var rfl)) (eks_cons (ek_text (Evl.ev_var rfl)) eks_nil))))) fun v H6 s6 hv => ?_
      exact q v H6 (.visit day a b) hv rfl ⟨ha_m, hb_m, hab⟩ (k5.post s6) ((F5.same s6).le (by omega))
    · refine s_retK (k := (Pg.card day a b).key) (ek_tup (eks_cons (ek_ixL (i := 0) (ks := [.text "card", .text "visit"]) (el_lstK (eks_cons ek_str (eks_cons ek_str eks_nil))) (Evl.ev_is (ev_int1 (eb_gtI (Evl.ev_var rfl) Evl.ev_c)) (by simp [h8])) rfl) (eks_cons (ek_num (Evl.ev_var rfl)) (eks_cons (ek_text (Evl.ev_var rfl)) (eks_cons (ek_text (Evl.ev_var rfl)) eks_nil))))) fun v H6 s6 hv => ?_
      exact q v H6 (.card day a b) hv rfl ⟨ha_m, hb_m, hab⟩ (k5.post s6) ((F5.same s6).le (by omega))
  have F5 := F4.same s5
  refine rd_home (m := m + 2) (Evl.ev_var rfl) (F5.le (by omega)) fun hv H7 hl kh hho k7 F7 => ?_
  refine ⟨.ref f, rfl, Nat.le_of_ble_eq_true rfl, fun l4 hl4 => ?_⟩
  have n4 := F7.fresh hl4
  refine rd_draw (m := m + 1) (many := 2) (Evl.ev_var rfl) Evl.ev_c (by decide) (by decide) (F7.upd n4.1 n4.2) fun u H8 u0 u1 k8 F8 => ?_
  have hl8 := k8 l4 _ n4.1 upd_same
  have t78 : TupLe H7 H8 := (TupLe.upd_new hl4).trans ((F7.upd n4.1 n4.2).tup k8)
  have kh8 := KAt.keep t78 _ _ kh
  have k78 : Kp H7 H8 f := fun b o hb e => k8 b o hb (by rw [upd_ne (ne_of_none e hl4)]; exact e)
  obtain ⟨z, hz, hz4⟩ : ∃ z : Int, atI [V.int 4, V.int 60] u = some (.int z) ∧ 0 < z ∧ z ≤ 60 := by
    have : u = 0 ∨ u = 1 := by omega
    rcases this with rfl | rfl
    · exact ⟨4, rfl, by decide, by decide⟩
    · exact ⟨60, rfl, by decide, by decide⟩
  refine ⟨l4, _, u, .int z, rfl, rfl, .of hl8, hz, ?_⟩
  refine ⟨f, c, m, z, rfl, hz4.1, by omega, F8, fun x H9 x0 x1 k9 F9 => ?_⟩
  have kh9 := KAt.keep (F8.tup k9) _ _ kh8
  refine ⟨1, x, rfl, rfl, _, _, rfl, ?_⟩
  have k09 : Kp H H9 f := (((k04.post s5).tr k7).tr k78).tr k9
  dsimp only
  refine Evl.s_if (et_T (eb_eqI (Evl.ev_var rfl) Evl.ev_c)) (fun hb1 H10 s10 => ?_) (fun hb1 H10 s10 => ?_)
  · refine s_retK (k := (Pg.part day a b hl).key) (ek_tup (eks_cons ek_str (eks_cons (ek_num (Evl.ev_var rfl)) (eks_cons (ek_text (Evl.ev_var rfl)) (eks_cons (ek_text (Evl.ev_var rfl)) (eks_cons (ek_var rfl (kh9.mono s10)) eks_nil)))))) fun v H11 s11 hv => ?_
    exact q v H11 (.part day a b hl) hv rfl ⟨ha_m, hb_m, hab, hho⟩ ((k09.post s10).post s11) ((F9.same s10).same s11)
  · refine s_nil ?_
    have kh10 := kh9.mono s10
    have hw1 : way ≠ 1 := by simpa using hb1
    have hw6 : way < 6 := by simpa using hb
    have cs : way = 0 ∨ way = 2 ∨ way = 3 ∨ way = 4 ∨ way = 5 := by omega
    have fin : ∀ (p : Pg) (kd : Str) (lk : NestedKey), p.key = .tup [.text kd, .num day, .text a, lk] → p.day = day → p.fine nm → atI [NestedKey.text "house", .text "", .text "join", .text "home", .text "mourn", .text "ahead"] way = some (.text kd) → atI [NestedKey.tup (nums hl), .text a, .text b, .tup (nums hl), .num (1 + x), .text b] way = some lk →
        ∀ {D : Ends}, (∀ v H', KAt H' v p.key → Same H10 H' → D.rt v H') → tRet (tTup (tCons (tOp (rIxL K) (tLst (tCons (tC (.str "house")) (tCons (tC (.str "")) (tCons (tC (.str "join")) (tCons (tC (.str "home")) (tCons (tC (.str "mourn")) (tCons (tC (.str "ahead")) tNil))))))) (tVar 6)) (tCons (tVar 2) (tCons (tVar 4) (tCons (tOp (rIxL K) (tLst (tCons (tVar 7) (tCons (tVar 4) (tCons (tVar 5) (tCons (tVar 7) (tCons (tVar 8) (tCons (tVar 5) tNil))))))) (tVar 6)) tNil))))) D [some (.ref f), some (.ref n), some (.int day), some (.int rn), some (.str a), some (.str b), some (.int way), some hv, some (.int (1 + x))] H10 := by
      intro p kd lk e1 e2 e3 e4 e5 D qq
      refine s_retK (k := p.key) ?_ fun v H11 s11 hv' => qq v H11 hv' s11
      rw [e1]
      exact ek_tup (eks_cons (ek_ixL (el_lstK (eks_cons ek_str (eks_cons ek_str (eks_cons ek_str (eks_cons ek_str (eks_cons ek_str (eks_cons ek_str eks_nil))))))) (Evl.ev_var rfl) e4) (eks_cons (ek_num (Evl.ev_var rfl)) (eks_cons (ek_text (Evl.ev_var rfl)) (eks_cons
        (ek_ixL (el_lstK (eks_cons (ek_var rfl kh10) (eks_cons (ek_text (Evl.ev_var rfl)) (eks_cons (ek_text (Evl.ev_var rfl)) (eks_cons (ek_var rfl kh10) (eks_cons (ek_num (Evl.ev_var rfl)) (eks_cons (ek_text (Evl.ev_var rfl)) eks_nil))))))) (Evl.ev_var rfl) e5) eks_nil))))
    rcases cs with rfl | rfl | rfl | rfl | rfl
    · exact fin (.house day a hl) _ _ rfl rfl ⟨ha_m, hho⟩ rfl rfl fun v H11 hv s11 => q v H11 _ hv rfl ⟨ha_m, hho⟩ ((k09.post s10).post s11) ((F9.same s10).same s11)
    · exact fin (.join day a b) _ _ rfl rfl ⟨ha_m, hb_m, hab⟩ rfl rfl fun v H11 hv s11 => q v H11 _ hv rfl ⟨ha_m, hb_m, hab⟩ ((k09.post s10).post s11) ((F9.same s10).same s11)
    · exact fin (.home day a hl) _ _ rfl rfl ⟨ha_m, hho⟩ rfl rfl fun v H11 hv s11 => q v H11 _ hv rfl ⟨ha_m, hho⟩ ((k09.post s10).post s11) ((F9.same s10).same s11)
    · exact fin (.mourn day a (1 + x)) _ _ rfl rfl ⟨ha_m, by omega, by omega⟩ rfl rfl fun v H11 hv s11 => q v H11 _ hv rfl ⟨ha_m, by omega, by omega⟩ ((k09.post s10).post s11) ((F9.same s10).same s11)
    · exact fin (.ahead day a b) _ _ rfl rfl ⟨ha_m, hb_m, hab⟩ rfl rfl fun v H11 hv s11 => q v H11 _ hv rfl ⟨ha_m, hb_m, hab⟩ ((k09.post s10).post s11) ((F9.same s10).same s11)
end
end CB
/-! CBQ4 -/
set_option Elab.async false
set_option autoImplicit false
set_option linter.all false
set_option maxRecDepth 100000
set_option maxHeartbeats 2000000
/-! A book drawn. -/
namespace CB
open PySem PySem.Spec PyProof.Rows L2
open Evl (Ev EvT EvA EvO)
theorem nodup_le {α : Type} [DecidableEq α] : ∀ {l m : List α}, l.Nodup → (∀ x ∈ l, x ∈ m) → l.length ≤ m.length
  | [], _, _, _ => Nat.zero_le _
  | a :: l, m, hn, h => by
    obtain ⟨h1, h2⟩ := List.nodup_cons.mp hn
    have ha := h a List.mem_cons_self
    have := nodup_le (m := m.erase a) h2 fun x hx => (List.mem_erase_of_ne (fun (e : x = a) => h1 (e ▸ hx))).mpr (h x (List.mem_cons_of_mem _ hx))
    have e := List.length_erase_of_mem ha
    have pos := List.length_pos_of_mem ha
    rw [List.length_cons]
    omega
def Pg.mv (p : Pg) : Bool := p.isGo || p.isPart
/-- a page that may stand in a drawn book -/
def Pg.good (nm : List Str) (p : Pg) : Prop := p.fine nm ∧ 0 ≤ p.day ∧ p.day ≤ 9200
theorem cutV_strs (nm : List Str) (j : Nat) : cutV (nm.map V.str) none (some (j : Int)) = (nm.take j).map V.str := by
  unfold cutV
  have e : HT.sIx (nm.map V.str).length (nm.map V.str).length (some (j : Int)) = min j (nm.map V.str).length := HT.sIx_nat _ _ _
  rw [e, HT.sIx_none, List.drop_zero, Nat.sub_zero, ← List.map_take, List.length_map]
  congr 1
  rw [List.take_eq_take_iff]
  omega
section
variable {P : Program} {w : World} {K : PySem.W.Frag} {mg : Str → Option Value} {base : Heap} (T : Tp K mg)
include T
structure BkD (nm : List Str) (many : Nat) (bk : List Pg) : Prop where
  nd : bk.Nodup
  rise : rising bk
  good : ∀ p ∈ bk, p.good nm
  mv : (bk.filter Pg.mv).length ≤ many
  len : bk.length ≤ 5 + many
  some : ∃ p ∈ bk, p.isPart = false
def spBook : Sp := fun vs H Q _ => ∃ (f c n : Addr) (m many : Nat) (nm : List Str) (wide : Int), vs = [.ref f, .ref n, .int (many : Int), .int wide] ∧ Feed H f c (m + 300) ∧ H n = some (.lst (nm.map V.str)) ∧ nm.Nodup ∧ 2 ≤ nm.length ∧ nm.length ≤ 9 ∧ many ≤ 16 ∧ 0 < wide ∧ wide ≤ 100 ∧
  ∀ v H' bk, KAt H' v (.tup (pgs bk)) → BkD nm many bk → Kp H H' f → Feed H' f c m → Q v H'
theorem ok_l_book : Ok P w K mg base 5 ("_law_book", none) ["_law_feed_here", "_law_names_here", "_law_many", "_law_wide"] spBook := by
  have G := ok_draw (P := P) (w := w) (base := base) T
  have G2 := ok_l_home (P := P) (w := w) (base := base) T
  have G3 := ok_l_page (P := P) (w := w) (base := base) T
  have G4 := ok_stand (P := P) (w := w) (base := base) T
  refine ok_of T.f_l_book c_l_book (fun _ _ _ _ _ _ us hl => match us, hl with | [_, _, _, _], _ => rfl) (fun vs H Q E ⟨f, c, n, m, many, nm, wide, e, _⟩ => by rw [e]; rfl) (fun cdv A outer s0 H vs Q E hr h => ?_)
  obtain ⟨f, c, n, m, many, nm, wide, rfl, F, hn, hnd, hl2, hl9, hm16, hw0, hw1, q⟩ := h
  have hr4 : Room 4 _ := hr
  have hr3 := hr4.mono (by decide : 3 ≤ 4)
  have hr2 := hr4.mono (by decide : 2 ≤ 4)
  have hr1 := hr4.mono (by decide : 1 ≤ 4)
  have nf : n ≠ f := fun z => by
    obtain ⟨ns, a, l, t, e1, e2, e3⟩ := F
    rw [z, e1] at hn; cases hn
  have lm : (nm.map V.str).length = nm.length := List.length_map _
  refine ⟨_, pss_cons (ps_set (i := 4) c_l_book.nd rfl (.inl rfl) (pe_ix ix_list (pe_lst (pa_cons pe_int (pa_cons pe_int (pa_cons (pe_fn G hr1 (by rfl) T.g_l_draw (pa_cons (pv 0) (pa_cons pe_int pa_nil))) pa_nil)))) (pe_fn G hr1 (by rfl) T.g_l_draw (pa_cons (pv 0) (pa_cons pe_int pa_nil))) (fun _ _ => rfl)))
    (pss_cons (ps_set (i := 5) c_l_book.nd rfl (.inl rfl) (pe_lst pa_nil))
    (pss_cons (ps_for .never rfl (pi_list (pe_slice sl_list (pv 1) po_none (po_some (pe_op op_add pe_int (pe_op op_fdiv (pe_callB call_len_seq (by rfl) T.b_len PySem.boot_len (pa_cons (pv 1) pa_nil)) pe_int))))) (pg_name (i := 6) c_l_book.nd rfl (.inl rfl))
      (pss_one (ps_expr (pe_bm PySem.F.plainAttrs_list PySem.F.slot_list_append PySem.F.type_list_append mt_append (pv 5) (pa_cons (pe_tup (pa_cons pe_str (pa_cons (pe_op op_add (pv 4) (pe_fn G hr1 (by rfl) T.g_l_draw (pa_cons (pv 0) (pa_cons pe_int pa_nil)))) (pa_cons (pv 6) (pa_cons (pe_fn G2 hr2 (by rfl) T.g_l_home (pa_cons (pv 0) pa_nil)) pa_nil))))) pa_nil)))))
    (pss_cons (ps_for .never rfl (pi_range1 (by rfl) T.b_range (pa_cons (pv 2) pa_nil)) (pg_name (i := 7) c_l_book.nd rfl (.inl rfl))
      (pss_one (ps_expr (pe_bm PySem.F.plainAttrs_list PySem.F.slot_list_append PySem.F.type_list_append mt_append (pv 5) (pa_cons (pe_fn G3 hr3 (by rfl) T.g_l_page (pa_cons (pv 0) (pa_cons (pv 1) (pa_cons (pe_op op_add (pv 4) (pe_fn G hr1 (by rfl) T.g_l_draw (pa_cons (pv 0) (pa_cons (pv 3) pa_nil)))) pa_nil)))) pa_nil)))))
    (pss_one (ps_ret (pe_fn G4 hr4 (by rfl) T.g_l_standing_so (pa_cons (pv 5) pa_nil))))))), ?_⟩
  refine rd_draw (m := m + 299) (many := 9000) (Evl.ev_var rfl) Evl.ev_c (by decide) (by decide) F fun d H1 d0 d1 k1 F1 => ?_
  refine ⟨Nat.le_of_ble_eq_true rfl, fun l1 hl1 => ?_⟩
  have n1 := F1.fresh hl1
  have hn1 := k1 n _ nf hn
  refine rd_draw (m := m + 298) (many := 3) (Evl.ev_var rfl) Evl.ev_c (by decide) (by decide) (F1.upd n1.1 n1.2) fun u H2 u0 u1 k2 F2 => ?_
  obtain ⟨b, hb, hb0, hb1⟩ : ∃ b : Int, atI [V.int 0, V.int 5, V.int d] u = some (.int b) ∧ 0 ≤ b ∧ b < 9000 := by
    have : u = 0 ∨ u = 1 ∨ u = 2 := by omega
    rcases this with rfl | rfl | rfl
    · exact ⟨0, rfl, by decide, by decide⟩
    · exact ⟨5, rfl, by decide, by decide⟩
    · exact ⟨d, rfl, d0, d1⟩
  refine ⟨l1, _, u, .int b, rfl, rfl, .of (k2 l1 _ n1.1 upd_same), hb, ?_⟩
  have k02 : Kp H H2 f := k1.tr fun a o ha e => k2 a o ha (by rw [upd_ne (ne_of_none e hl1)]; exact e)
  have hn2 := k02 n _ nf hn
  clear k1 k2 hl1 n1 hn1 F1
  dsimp only
  refine s_asgLK (ks := []) (el_lstK eks_nil) fun pg xs3 H3 hpg s3 hp3 hk3 => ?_
  cases hk3
  have n3 := F2.fresh hpg
  have hpg0 : H pg = none := by
    cases e : H pg with
    | none => rfl
    | some o => rw [k02 pg o n3.1 e] at hpg; cases hpg
  have hnpg : n ≠ pg := ne_of_none hn2 hpg
  have hn3 := s3 _ _ hn2
  have F3 := F2.same s3
  have k03 := k02.post s3
  dsimp only
  have ej : (1 : Int) + ((nm.map V.str).length : Int) / 2 = ((1 + nm.length / 2 : Nat) : Int) := by rw [lm]; omega
  have hmem : ∀ {i : Nat} {x : V}, ((nm.take (1 + nm.length / 2)).map V.str)[i]? = some x → ∃ s ∈ nm, x = .str s := fun {i x} h => by
    rw [List.getElem?_map] at h
    obtain ⟨s, hs, rfl⟩ := Option.map_eq_some_iff.mp h
    exact ⟨s, List.mem_of_mem_take (List.mem_of_getElem? hs), rfl⟩
  have hlen : ((nm.take (1 + nm.length / 2)).map V.str).length = 1 + nm.length / 2 := by rw [List.length_map, List.length_take]; omega
  have hxs := cutV_strs nm (1 + nm.length / 2)
  rw [← ej] at hxs
  generalize (nm.take (1 + nm.length / 2)).map V.str = names at hmem hlen hxs
  refine Evl.s_forNL (K := K) (xs := names) (by
      rw [← hxs]
      exact Evl.el_sl (K := K) (Evl.ev_var rfl) eo_non (Evl.eo_some (ev_add Evl.ev_c (ev_div (ev_lenAt (Evl.ev_var rfl) (.of hn3)) Evl.ev_c ⟨by decide, by decide⟩))) (.of hn3))
    (fun p i σ' H' => (σ'.length = 8 ∧ σ'[0]? = some (some (.ref f)) ∧ σ'[1]? = some (some (.ref n)) ∧ σ'[2]? = some (some (.int (many : Int))) ∧ σ'[3]? = some (some (.int wide)) ∧ σ'[4]? = some (some (.int b)) ∧ σ'[5]? = some (some (.ref pg))) ∧ (p ≠ f ∧ p ≠ pg) ∧ H' p = some (.lst names) ∧ H' n = some (.lst (nm.map V.str)) ∧ Kp H H' f ∧ Feed H' f c (m + 240 + 9 * (5 - i)) ∧
      ∃ (ps : List Pg) (xs : List V), H' pg = some (.lst xs) ∧ KAll H' xs (pgs ps) ∧ ps.length = i ∧ ∀ x ∈ ps, x.good nm ∧ x.mv = false)
    (fun p H4 hp s4 hp4 => ⟨⟨rfl, rfl, rfl, rfl, rfl, rfl, rfl⟩, ⟨(F3.fresh hp).1, (ne_of_none hp3 hp).symm⟩, hp4, s4 _ _ hn3, k03.post s4, (F3.same s4).le (by omega), [], [], s4 _ _ hp3, .nil, rfl, fun x h => (nomatch h)⟩)
    (fun p i σ' H' _ h => .of h.2.2.1) ?_ ?_
  · rintro p i x σ' H4 hi ⟨⟨sh, z0, z1, z2, z3, z4, z5⟩, hpn, hp4, hn4, k4, F4, ps, xs, hpg4, hka, hpl, hps⟩
    obtain ⟨s, hs, rfl⟩ := hmem hi
    have li : i < 5 := by
      have := (List.getElem?_eq_some_iff.mp hi).1
      omega
    obtain ⟨σ0, σ1, σ2, σ3, σ4, σ5, σ6, σ7, rfl⟩ : ∃ a b c d e f g h, σ' = [a, b, c, d, e, f, g, h] := by
      match σ', sh with
      | [a, b, c, d, e, f, g, h], _ => exact ⟨a, b, c, d, e, f, g, h, rfl⟩
    cases z0; cases z1; cases z2; cases z3; cases z4; cases z5
    refine ⟨.ref pg, rfl, .inl ⟨rfl, _, .of hpg4⟩, ?_⟩
    refine ⟨.int b, rfl, ?_⟩
    refine rd_draw (m := m + 240 + 9 * (5 - (i + 1)) + 8) (many := 2) (Evl.ev_var rfl) Evl.ev_c (by decide) (by decide) (F4.le (by omega)) fun e H5 e0 e1 k5 F5 => ?_
    refine ⟨_, _, rfl, rfl, .str s, rfl, ?_⟩
    refine rd_home (m := m + 240 + 9 * (5 - (i + 1))) (Evl.ev_var rfl) F5 fun hv H6 hl kh hho k6 F6 => ?_
    refine ⟨Nat.le_of_ble_eq_true rfl, fun t ht => ?_⟩
    have k46 := k5.tr k6
    have npf : pg ≠ f := n3.1
    have hpg6 := k46 pg _ npf hpg4
    have tpg : pg ≠ t := ne_of_none hpg6 ht
    have hpgu : (upd H6 t (.tup [.str "house", .int (b + e), .str s, hv])) pg = some (.lst xs) := by rw [upd_ne tpg]; exact hpg6
    have lx := hka.length
    unfold pgs at lx
    rw [List.length_map] at lx
    refine ⟨pg, xs, .ref t, rfl, rfl, hpgu, Evl.sz_lt (by omega), ?_⟩
    have nt := F6.fresh ht
    have t1 : TupLe H4 H6 := (F4.tup k5).trans (F5.tup k6)
    have t2 : TupLe H6 (upd H6 t (.tup [.str "house", .int (b + e), .str s, hv])) := .upd_new ht
    have t3 : TupLe (upd H6 t (.tup [.str "house", .int (b + e), .str s, hv])) (upd (upd H6 t (.tup [.str "house", .int (b + e), .str s, hv])) pg (.lst (xs ++ [.ref t]))) := fun a ys ea => by
      rw [upd_ne (fun z => by rw [z, hpgu] at ea; cases ea)]; exact ea
    have keep : ∀ {a : Addr} {o : HO}, a ≠ f → a ≠ pg → H4 a = some o → (upd (upd H6 t (.tup [.str "house", .int (b + e), .str s, hv])) pg (.lst (xs ++ [.ref t]))) a = some o := fun {a o} h1 h2 h3 => by
      have h4 := k46 a o h1 h3
      rw [upd_ne h2, upd_ne (ne_of_none h4 ht)]; exact h4
    refine ⟨⟨rfl, rfl, rfl, rfl, rfl, rfl, rfl⟩, hpn, keep hpn.1 hpn.2 hp4, keep nf hnpg hn4, fun a o ha ea => keep ha (ne_of_none ea hpg0) (k4 a o ha ea), (F6.upd nt.1 nt.2).upd npf (n3.2), ps ++ [.house (b + e) s hl], _, upd_same, ?_, by rw [List.length_append, hpl]; rfl, fun x hx => ?_⟩
    · unfold pgs
      rw [List.map_append]
      refine (KAll.keep ((t1.trans t2).trans t3) _ _ hka).append (.cons ?_ .nil)
      exact KAt.keep t3 _ _ (.tup upd_same (.cons (.text _) (.cons (.num _) (.cons (.text _) (.cons (kh.mono (.up ht)) .nil)))))
    · rcases List.mem_append.mp hx with hx | hx
      · exact hps x hx
      · rw [List.mem_singleton.mp hx]
        exact ⟨⟨⟨hs, hho⟩, by show 0 ≤ b + e; omega, by show b + e ≤ 9200; omega⟩, rfl⟩
  · rintro p σ' H4 ⟨⟨sh, z0, z1, z2, z3, z4, z5⟩, hpn, hp4, hn4, k4, F4, ps1, xs1, hpg4, hka, hpl, hps1⟩
    obtain ⟨σ0, σ1, σ2, σ3, σ4, σ5, σ6, σ7, rfl⟩ : ∃ a b c d e f g h, σ' = [a, b, c, d, e, f, g, h] := by
      match σ', sh with
      | [a, b, c, d, e, f, g, h], _ => exact ⟨a, b, c, d, e, f, g, h, rfl⟩
    cases z0; cases z1; cases z2; cases z3; cases z4; cases z5
    have hp1 : 1 ≤ ps1.length ∧ ps1.length ≤ 5 := by omega
    refine Evl.s_forR1 (n := (many : Int)) (Evl.ea_cons (Evl.ev_var rfl) Evl.ea_nil) (by omega) (fun i σ' H' => (σ'.length = 8 ∧ σ'[0]? = some (some (.ref f)) ∧ σ'[1]? = some (some (.ref n)) ∧ σ'[3]? = some (some (.int wide)) ∧ σ'[4]? = some (some (.int b)) ∧ σ'[5]? = some (some (.ref pg))) ∧ H' n = some (.lst (nm.map V.str)) ∧ Kp H H' f ∧ Feed H' f c (m + 14 * (16 - i)) ∧
        ∃ (ps2 : List Pg) (xs : List V), H' pg = some (.lst xs) ∧ KAll H' xs (pgs (ps1 ++ ps2)) ∧ ps2.length = i ∧ ∀ x ∈ ps2, x.good nm)
      (fun H5 s5 => ⟨⟨rfl, rfl, rfl, rfl, rfl, rfl⟩, s5 _ _ hn4, k4.post s5, (F4.same s5).le (by omega), [], xs1, s5 _ _ hpg4, by rw [List.append_nil]; exact hka.mono s5, rfl, fun x h => (nomatch h)⟩) ?_ ?_
    · clear hka hpg4 F4 k4 hn4 hp4
      rintro i σ' H4 hi ⟨⟨sh, z0, z1, z3, z4, z5⟩, hn4, k4, F4, ps, xs, hpg4, hka, hpl2, hps⟩
      obtain ⟨σ0, σ1, σ2, σ3, σ4, σ5, σ6, σ7, rfl⟩ : ∃ a b c d e f g h, σ' = [a, b, c, d, e, f, g, h] := by
        match σ', sh with
        | [a, b, c, d, e, f, g, h], _ => exact ⟨a, b, c, d, e, f, g, h, rfl⟩
      cases z0; cases z1; cases z3; cases z4; cases z5
      refine ⟨.ref pg, rfl, .inl ⟨rfl, _, .of hpg4⟩, ?_⟩
      refine ⟨.ref f, rfl, .ref n, rfl, .int b, rfl, ?_⟩
      refine rd_draw (m := m + 14 * (16 - (i + 1)) + 13) (many := wide) (Evl.ev_var rfl) (Evl.ev_var rfl) hw0 (by omega) (F4.le (by omega)) fun e H5 e0 e1 k5 F5 => ?_
      refine ⟨_, _, rfl, rfl, ?_⟩
      have npf : pg ≠ f := n3.1
      refine ⟨f, c, n, m + 14 * (16 - (i + 1)), nm, b + e, rfl, F5, k5 n _ nf hn4, hnd, hl2, hl9, fun v H6 x hv hday hfine k6 F6 => ?_⟩
      have k46 := k5.tr k6
      have hpg6 := k46 pg _ npf hpg4
      have lx := hka.length
      unfold pgs at lx
      rw [List.length_map, List.length_append] at lx
      refine ⟨pg, xs, v, rfl, rfl, hpg6, Evl.sz_lt (by omega), ?_⟩
      have t1 : TupLe H4 H6 := (F4.tup k5).trans (F5.tup k6)
      have t3 : TupLe H6 (upd H6 pg (.lst (xs ++ [v]))) := fun a ys ea => by
        rw [upd_ne (fun z => by rw [z, hpg6] at ea; cases ea)]; exact ea
      have keep : ∀ {a : Addr} {o : HO}, a ≠ f → a ≠ pg → H4 a = some o → (upd H6 pg (.lst (xs ++ [v]))) a = some o := fun {a o} h1 h2 h3 => by
        have h4 := k46 a o h1 h3
        rw [upd_ne h2]; exact h4
      refine ⟨⟨rfl, rfl, rfl, rfl, rfl, rfl⟩, keep nf hnpg hn4, fun a o ha ea => keep ha (ne_of_none ea hpg0) (k4 a o ha ea), F6.upd npf n3.2, ps ++ [x], _, upd_same, ?_, by rw [List.length_append, hpl2]; rfl, fun y hy => ?_⟩
      · rw [← List.append_assoc]
        unfold pgs at hka ⊢
        rw [List.map_append (l₂ := [x])]
        exact (KAll.keep (t1.trans t3) _ _ hka).append (.cons (KAt.keep t3 _ _ hv) .nil)
      · rcases List.mem_append.mp hy with hy | hy
        · exact hps y hy
        · rw [List.mem_singleton.mp hy]
          exact ⟨hfine, by omega, by omega⟩
    · clear hka hpg4 F4 k4 hn4 hp4
      rintro σ' H4 ⟨⟨sh, z0, z1, z3, z4, z5⟩, hn4, k4, F4, ps, xs, hpg4, hka, hpl2, hps⟩
      have hpl3 : ps.length = many := by rw [hpl2]; omega
      refine ⟨.ref pg, z5, pg, xs, ps1 ++ ps, rfl, hpg4, hka, by rw [List.length_append]; omega, fun v H5 qs s5 hv nd mem ris => ?_⟩
      refine q v H5 qs hv ⟨nd, ris, fun p hp => ?_, ?_, ?_, ?_⟩ (k4.post s5) ((F4.same s5).le (by omega))
      · rcases List.mem_append.mp ((mem p).mp hp) with h | h
        · exact (hps1 p h).1
        · exact hps p h
      · rw [← hpl3]
        refine nodup_le (nd.filter _) fun p hp => ?_
        obtain ⟨hp1, hp2⟩ := List.mem_filter.mp hp
        rcases List.mem_append.mp ((mem p).mp hp1) with h | h
        · rw [(hps1 p h).2] at hp2; cases hp2
        · exact h
      · have := nodup_le nd fun p hp => (mem p).mp hp
        rw [List.length_append] at this
        omega
      · obtain ⟨x, hx⟩ : ∃ x, x ∈ ps1 := by
          cases ps1 with
          | nil => simp at hp1
          | cons x _ => exact ⟨x, List.mem_cons_self⟩
        refine ⟨x, (mem x).mpr (List.mem_append_left _ hx), ?_⟩
        have := (hps1 x hx).2
        unfold Pg.mv at this
        rw [Bool.or_eq_false_iff] at this
        exact this.2
end
end CB
/-! CBQ5 -/
set_option Elab.async false
set_option autoImplicit false
set_option linter.all false
set_option maxRecDepth 100000
set_option maxHeartbeats 2000000
/-! A case drawn. -/
namespace CB
open PySem PySem.Spec PyProof.Rows L2
open Evl (Ev EvT EvA EvO)
theorem mv_sum : ∀ l : List Pg, goN l + partN l = (l.filter Pg.mv).length
  | [] => rfl
  | p :: l => by
    have ih := mv_sum l
    unfold goN partN at ih ⊢
    rw [List.countP_cons, List.countP_cons, List.filter_cons]
    cases p <;> simp [Pg.mv, Pg.isGo, Pg.isPart] <;> omega
theorem cap_small {l : List Pg} (h : goN l + partN l ≤ 11) : capN l ≤ 1024 := by
  unfold capN
  generalize goN l = g at h
  generalize partN l = p at h
  have hp : p ≤ 11 := by omega
  have : g * 2 ^ p ≤ (11 - p) * 2 ^ p := Nat.mul_le_mul_right _ (by omega)
  refine Nat.le_trans this ?_
  have key : ∀ p : Fin 12, (11 - p.val) * 2 ^ p.val ≤ 1024 := by decide
  exact key ⟨p, by omega⟩
structure BookOk (nm : List Str) (bk : List Pg) : Prop where
  nd : bk.Nodup
  rise : rising bk
  good : ∀ p ∈ bk, p.good nm
  cap : capN bk ≤ 1024
  few : nm.length ≤ 4 ∨ capN bk ≤ 16
  len : bk.length ≤ 21
  ne : bk ≠ []
theorem BkD.small {nm : List Str} {many : Nat} {bk : List Pg} (b : BkD nm many bk) (hm : many ≤ 11) (hn : nm.length ≤ 4) : BookOk nm bk :=
  ⟨b.nd, b.rise, b.good, cap_small (by rw [mv_sum]; exact Nat.le_trans b.mv hm), .inl hn, Nat.le_trans b.len (by omega), by
    obtain ⟨p, hp, _⟩ := b.some
    exact List.ne_nil_of_mem hp⟩
def noParts (bk : List Pg) : List Pg := bk.filter fun p => !p.isPart
theorem BkD.great {nm : List Str} {many : Nat} {bk : List Pg} (b : BkD nm many bk) (hm : many ≤ 16) : BookOk nm (noParts bk) := by
  have hp : partN (noParts bk) = 0 := by
    unfold partN noParts
    refine List.countP_eq_zero.mpr fun p hp => ?_
    have := (List.mem_filter.mp hp).2
    simpa using this
  have hg : goN (noParts bk) ≤ 16 := by
    have h1 : goN (noParts bk) ≤ goN bk := List.Sublist.countP_le List.filter_sublist
    have h2 := mv_sum bk
    have h3 := b.mv
    omega
  have hc : capN (noParts bk) ≤ 16 := by
    unfold capN
    rw [hp]
    omega
  refine ⟨b.nd.filter _, b.rise.filter _, fun p hp => b.good p (List.mem_filter.mp hp).1, by omega, .inr hc, Nat.le_trans (List.length_filter_le _ _) (Nat.le_trans b.len (by omega)), ?_⟩
  obtain ⟨p, hp, h2⟩ := b.some
  exact List.ne_nil_of_mem (List.mem_filter.mpr ⟨hp, by rw [h2]; rfl⟩)
def notPartK : NestedKey → Bool
  | .tup (.text s :: _) => !decide (s = "part")
  | _ => false
theorem kindPart (p : Pg) : decide (p.kind = "part") = p.isPart := by
  have h : decide (("house" : Str) = "part") = false ∧ decide (("part" : Str) = "part") = true ∧ decide (("join" : Str) = "part") = false ∧ decide (("home" : Str) = "part") = false ∧ decide (("mourn" : Str) = "part") = false ∧ decide (("ahead" : Str) = "part") = false ∧ decide (("card" : Str) = "part") = false ∧ decide (("visit" : Str) = "part") = false := by decide +kernel
  obtain ⟨h1, h2, h3, h4, h5, h6, h7, h8⟩ := h
  cases p
  · exact h1
  · exact h2
  · exact h3
  · exact h4
  · exact h5
  · exact h6
  · exact h7
  · exact h8
theorem notPartK_key (p : Pg) : notPartK p.key = !p.isPart := by
  rw [← kindPart]; rfl
theorem noParts_pgs (bk : List Pg) : (pgs bk).filter notPartK = pgs (noParts bk) := by
  unfold pgs noParts
  rw [List.filter_map]
  congr 1
  exact List.filter_congr fun p _ => notPartK_key p
section
variable {K : PySem.W.Frag} {σ : L2.St} {H : Hp} {f c : Addr} {m : Nat}
theorem ev_ifB {t : TT} {ta tb : TE} {g : Bool} {v : V} (h : EvT t σ H g) (h1 : g = true → Ev ta σ H v) (h2 : g = false → Ev tb σ H v) : Ev (tIf t ta tb) σ H v := fun H1 e Q q => h H1 e _ fun H2 e2 => by
  cases g with
  | true =>
    show ta σ H2 Q
    exact h1 rfl H2 (e.trans e2) Q fun H3 e3 => q H3 (e2.trans e3)
  | false =>
    show tb σ H2 Q
    exact h2 rfl H2 (e.trans e2) Q fun H3 e3 => q H3 (e2.trans e3)
theorem rd_sl {tl th : TO} {lo hi : Option Int} {a : Addr} {xs : List V} {Q : VK} (h1 : EvO tl σ H lo) (h2 : EvO th σ H hi) (h : H a = some (.lst xs)) (q : ∀ H1, Same H H1 → ∀ p, H1 p = none → Q (.ref p) (upd H1 p (.lst (cutV xs lo hi)))) : tl σ H fun l H2 => th σ H2 fun u H3 => rSlL K (.ref a) l u H3 Q :=
  h1 H (Evl.Ex.refl _) _ fun H1 s1 => h2 H1 s1 _ fun H2 s2 => ⟨a, xs, rfl, .of (s2 _ _ (s1 _ _ h)), fun p hp => q H2 (Same.tr s1 s2) p hp⟩
theorem rd_pick {i : Nat} {a b c' d : Int} {Q : VK} (h0 : σ[i]? = some (some (.ref f))) (F : Feed H f c (m + 1)) (q : ∀ x H', (x = a ∨ x = b ∨ x = c' ∨ x = d) → Kp H H' f → Feed H' f c m → Q (.int x) H') :
    tOp (rIxL K) (tLst (tCons (tC (.int a)) (tCons (tC (.int b)) (tCons (tC (.int c')) (tCons (tC (.int d)) tNil))))) (tCall spDraw [] E0 (tCons (tVar i) (tCons (tC (.int 4)) tNil))) σ H Q := by
  refine ⟨Nat.le_of_ble_eq_true rfl, fun l hl => ?_⟩
  have n := F.fresh hl
  refine rd_draw (m := m) (many := 4) (Evl.ev_var h0) Evl.ev_c (by decide) (by decide) (F.upd n.1 n.2) fun u H1 u0 u1 k1 F1 => ?_
  have k : Kp H H1 f := fun b u hb e => k1 b u hb (by rw [upd_ne (ne_of_none e hl)]; exact e)
  have hl1 := k1 l _ n.1 upd_same
  have : u = 0 ∨ u = 1 ∨ u = 2 ∨ u = 3 := by omega
  rcases this with rfl | rfl | rfl | rfl
  · exact ⟨l, _, 0, .int a, rfl, rfl, .of hl1, rfl, q a H1 (.inl rfl) k F1⟩
  · exact ⟨l, _, 1, .int b, rfl, rfl, .of hl1, rfl, q b H1 (.inr (.inl rfl)) k F1⟩
  · exact ⟨l, _, 2, .int c', rfl, rfl, .of hl1, rfl, q c' H1 (.inr (.inr (.inl rfl))) k F1⟩
  · exact ⟨l, _, 3, .int d, rfl, rfl, .of hl1, rfl, q d H1 (.inr (.inr (.inr rfl))) k F1⟩
end
/-- what is drawn -/
structure CaseOk (bk : List Pg) (t : Int × Int) : Prop where
  book : ∃ nm : List Str, NmOk nm ∧ nm.length ≤ 9 ∧ BookOk nm bk
  t1 : 1 ≤ t.1 ∧ t.1 ≤ 60
  t2 : 1 ≤ t.2 ∧ t.2 ≤ 60
section
variable {P : Program} {w : World} {K : PySem.W.Frag} {mg : Str → Option Value} {base : Heap} (T : Tp K mg)
include T
def spCase : Sp := fun vs H Q _ => ∃ (f c : Addr), vs = [.ref f] ∧ Feed H f c 400 ∧
  ∀ (tp dl : Addr) (bv tv : V) (H' : Hp) (bk : List Pg) (t : Int × Int) (d1 d2 d3 : Int), H' tp = some (.tup [bv, tv, .ref dl]) → KAt H' bv (.tup (pgs bk)) → KAt H' tv (.tup [.num t.1, .num t.2]) → H' dl = some (.lst [.int d1, .int d2, .int d3]) → CaseOk bk t → (∀ d ∈ [d1, d2, d3], 0 ≤ d ∧ d ≤ 9400) → Q (.ref tp) H'
theorem ok_l_case : Ok P w K mg base 6 ("_law_case", none) ["_law_feed_here"] spCase := by
  have G := ok_draw (P := P) (w := w) (base := base) T
  have G2 := ok_l_names (P := P) (w := w) (base := base) T
  have G3 := ok_l_book (P := P) (w := w) (base := base) T
  refine ok_of T.f_l_case c_l_case (fun _ _ _ _ _ _ us hl => match us, hl with | [_], _ => rfl) (fun vs H Q E ⟨f, c, e, _⟩ => by rw [e]; rfl) (fun cdv A outer s0 H vs Q E hr h => ?_)
  obtain ⟨f, c, rfl, F, q⟩ := h
  have hr5 : Room 5 _ := hr
  have hr2 := hr5.mono (by decide : 2 ≤ 5)
  have hr1 := hr5.mono (by decide : 1 ≤ 5)
  refine ⟨_, pss_cons (ps_set (i := 1) c_l_case.nd rfl (.inl rfl) (pe_cmpR op_eq (pe_fn G hr1 (by rfl) T.g_l_draw (pa_cons (pv 0) (pa_cons pe_int pa_nil))) pe_int (nomark _)))
    (pss_cons (ps_asg (pe_tup (pa_cons (pe_ix ix_list (pe_lst (pa_cons pe_int (pa_cons pe_int (pa_cons pe_int (pa_cons pe_int pa_nil))))) (pe_fn G hr1 (by rfl) T.g_l_draw (pa_cons (pv 0) (pa_cons pe_int pa_nil))) (fun _ _ => rfl)) (pa_cons (pe_ix ix_list (pe_lst (pa_cons pe_int (pa_cons pe_int (pa_cons pe_int (pa_cons pe_int pa_nil))))) (pe_fn G hr1 (by rfl) T.g_l_draw (pa_cons (pv 0) (pa_cons pe_int pa_nil))) (fun _ _ => rfl)) pa_nil)))
      (pg_tup rfl (pgs_cons (pg_name (i := 2) c_l_case.nd rfl (.inl rfl)) (pgs_cons (pg_name (i := 3) c_l_case.nd rfl (.inr rfl)) pgs_nil))))
    (pss_cons (ps_set (i := 4) c_l_case.nd rfl (.inl rfl) (pe_ix ix_list (pe_lst (pa_cons pe_int (pa_cons pe_int (pa_cons pe_int (pa_cons pe_int pa_nil))))) (pe_fn G hr1 (by rfl) T.g_l_draw (pa_cons (pv 0) (pa_cons pe_int pa_nil))) (fun _ _ => rfl)))
    (pss_cons (ps_set (i := 5) c_l_case.nd rfl (.inl rfl) (pe_slice sl_list (pe_fn G2 hr2 (by rfl) T.g_l_names (pa_cons (pv 0) pa_nil)) po_none (po_some (pe_ifExp (pt_val (pv 1)) pe_int (pv 2)))))
    (pss_cons (ps_if (pt_val (pv 1)) (pss_one (ps_asg (pe_tup (pa_cons pe_int (pa_cons pe_int pa_nil))) (pg_tup rfl (pgs_cons (pg_name (i := 3) c_l_case.nd rfl (.inr rfl)) (pgs_cons (pg_name (i := 4) c_l_case.nd rfl (.inl rfl)) pgs_nil))))) pss_nil)
    (pss_cons (ps_set (i := 6) c_l_case.nd rfl (.inr rfl) (pe_fn G3 hr5 (by rfl) T.g_l_book (pa_cons (pv 0) (pa_cons (pv 5) (pa_cons (pe_ifExp (pt_val (pv 1)) pe_int (pe_op op_add pe_int (pe_fn G hr1 (by rfl) T.g_l_draw (pa_cons (pv 0) (pa_cons pe_int pa_nil))))) (pa_cons (pv 3) pa_nil))))))
    (pss_cons (ps_if (pt_val (pv 1)) (pss_one (ps_set (i := 6) c_l_case.nd rfl (.inr rfl) (pe_callTy call_tuple_of (by rfl) T.b_tuple PyProof.Rows.boot_tuple (pa_cons (pe_lc (own := [("_law_page_here", 8)]) (g := gName 8) (te := tVar 8) (tt := tTest (tOp rNe (tOp (rIxT K) (tVar 8) (tC (.int 0))) (tC (.str "part"))))
        rfl c_l_case.nd (pi_tup (pv 6)) (blkOk_by (N := ["_law_feed_here", "_law_great", "_law_many", "_law_wide", "_law_most", "_law_names_here", "_law_book_here", "_law_terms", "_law_page_here", "_law_k"]) (sc := defScope s_l_case) (by decide +kernel)) (fun _ _ _ _ _ => pg_name (i := 8) c_l_case.nd rfl (.inl rfl))
        (fun _ _ _ _ _ => pts_one (pt_cmpR op_ne (pe_ix ix_tup (pv 8) pe_int (fun _ _ => rfl)) pe_str (nomark _))) (fun _ _ _ _ _ => pv 8)) pa_nil)))) pss_nil)
    (pss_cons (ps_set (i := 7) c_l_case.nd rfl (.inl rfl) (pe_tup (pa_cons (pe_op op_add pe_int (pe_fn G hr1 (by rfl) T.g_l_draw (pa_cons (pv 0) (pa_cons (pv 4) pa_nil)))) (pa_cons (pe_op op_add pe_int (pe_fn G hr1 (by rfl) T.g_l_draw (pa_cons (pv 0) (pa_cons (pv 4) pa_nil)))) pa_nil))))
    (pss_one (ps_ret (pe_tup (pa_cons (pv 6) (pa_cons (pv 7) (pa_cons (pe_lc (own := [("_law_k", 9)]) (g := gName 9) (te := tOp (rI0 fun i j => .int (i + j)) (tOp (rIxT K) (tOp (rIxT K) (tVar 6) (tC (.int 0))) (tC (.int 1))) (tCall spDraw [] E0 (tCons (tVar 0) (tCons (tOp (rI0 fun i j => .int (i + j)) (tVar 3) (tC (.int 9))) tNil))))
        rfl c_l_case.nd (pi_range1 (by rfl) T.b_range (pa_cons pe_int pa_nil)) (blkOk_by (N := ["_law_feed_here", "_law_great", "_law_many", "_law_wide", "_law_most", "_law_names_here", "_law_book_here", "_law_terms", "_law_page_here", "_law_k"]) (sc := defScope s_l_case) (by decide +kernel)) (fun _ _ _ _ _ => pg_name (i := 9) c_l_case.nd rfl (.inl rfl))
        (fun _ _ _ _ _ => pts_nil) (fun _ _ _ _ _ => pe_op op_add (pe_ix ix_tup (pe_ix ix_tup (pv 6) pe_int (fun _ _ => rfl)) pe_int (fun _ _ => rfl)) (pe_fn G hr1 (by rfl) T.g_l_draw (pa_cons (pv 0) (pa_cons (pe_op op_add (pv 3) pe_int) pa_nil))))) pa_nil))))))))))))), ?_⟩
  refine rd_draw (m := 399) (many := 8) (Evl.ev_var rfl) Evl.ev_c (by decide) (by decide) F fun g0 H1 _ _ k1 F1 => ?_
  refine ⟨rfl, ?_⟩
  generalize decide (V.int g0 = V.int 0) = g
  dsimp only
  refine rd_pick (m := 398) rfl F1 fun many H2 hm k2 F2 => ?_
  refine rd_pick (m := 397) rfl F2 fun wide H3 hwd k3 F3 => ?_
  refine ⟨Nat.le_of_ble_eq_true rfl, fun t3 ht3 => ?_⟩
  have n3 := F3.fresh ht3
  refine ⟨t3, _, rfl, .of upd_same, rfl, _, _, rfl, _, _, rfl, rfl, ?_⟩
  dsimp only
  refine rd_pick (m := 396) rfl (F3.upd n3.1 n3.2) fun most H4 hmo k4 F4 => ?_
  dsimp only
  refine ⟨_, rfl, f, c, 366, rfl, F4, fun l5 H5 nm hok hlen k5 F5 hl5 => ?_⟩
  obtain ⟨j, hj, hj2, hjg⟩ : ∃ j : Nat, (if g = true then (9 : Int) else many) = (j : Int) ∧ (2 ≤ j ∧ j ≤ 9) ∧ (g = false → j ≤ 4) := by
    cases g with
    | true => exact ⟨9, rfl, ⟨by decide, by decide⟩, fun h => by cases h⟩
    | false =>
      rcases hm with rfl | rfl | rfl | rfl
      · exact ⟨2, rfl, ⟨by decide, by decide⟩, fun _ => by decide⟩
      · exact ⟨3, rfl, ⟨by decide, by decide⟩, fun _ => by decide⟩
      · exact ⟨4, rfl, ⟨by decide, by decide⟩, fun _ => by decide⟩
      · exact ⟨3, rfl, ⟨by decide, by decide⟩, fun _ => by decide⟩
  refine rd_sl (K := K) (lo := none) (hi := some (j : Int)) eo_non (Evl.eo_some (ev_ifB (et_B (Evl.ev_var rfl)) (fun e => by rw [if_pos e] at hj; rw [← hj]; exact Evl.ev_c) fun e => by rw [e, if_neg Bool.false_ne_true] at hj; rw [← hj]; exact Evl.ev_var rfl)) hl5 fun H6 s6 n hn => ?_
  rw [cutV_strs]
  have F6 := F5.same s6
  have n6 := F6.fresh hn
  have F7 := F6.upd (o := .lst ((nm.take j).map V.str)) n6.1 n6.2
  have hn7 : (upd H6 n (.lst ((nm.take j).map V.str))) n = some (.lst ((nm.take j).map V.str)) := upd_same
  generalize upd H6 n (.lst ((nm.take j).map V.str)) = H7 at F7 hn7
  have ok2 : NmOk (nm.take j) := ⟨hok.nd.sublist (List.take_sublist _ _), fun s hs => hok.ok s (List.mem_of_mem_take hs)⟩
  have len2 : (nm.take j).length = j := by rw [List.length_take]; omega
  generalize nm.take j = nm2 at F7 hn7 ok2 len2
  clear F5 F6 F4 F3 F2 F1 F s6 hl5 k1 k2 k3 k4 k5 hok hlen
  have hwd2 : 0 < wide ∧ wide ≤ 100 := by omega
  have hmo2 : 0 < most ∧ most ≤ 60 := by omega
  dsimp only
  refine seq_with (fun σ' H' => (σ'.length = 10 ∧ σ'[0]? = some (some (.ref f)) ∧ σ'[1]? = some (some (.bl g)) ∧ σ'[5]? = some (some (.ref n))) ∧ ∃ wide most : Int, σ'[3]? = some (some (.int wide)) ∧ σ'[4]? = some (some (.int most)) ∧ (0 < wide ∧ wide ≤ 100) ∧ (0 < most ∧ most ≤ 60) ∧ H' n = some (.lst (nm2.map V.str)) ∧ Feed H' f c 366) ?_ fun nx => ?_
  case refine_2 =>
    refine Evl.s_if (et_B (Evl.ev_var rfl)) (fun hb H8 s8 => ?_) (fun hb H8 s8 => ?_)
    · refine ⟨Nat.le_of_ble_eq_true rfl, fun t ht => ⟨t, _, rfl, .of upd_same, rfl, _, _, rfl, _, _, rfl, rfl, ?_⟩⟩
      have hn8 := s8 _ _ hn7
      have n8 := (F7.same s8).fresh ht
      exact nx _ _ ⟨⟨rfl, rfl, rfl, rfl⟩, 100, 60, rfl, rfl, ⟨by decide, by decide⟩, ⟨by decide, by decide⟩, by rw [upd_ne (ne_of_none hn8 ht)]; exact hn8, (F7.same s8).upd n8.1 n8.2⟩
    · refine s_nil ?_
      exact nx _ _ ⟨⟨rfl, rfl, rfl, rfl⟩, wide, most, rfl, rfl, hwd2, hmo2, s8 _ _ hn7, F7.same s8⟩
  clear hwd2 hmo2 F7 hn7 hwd hmo hn
  rintro σ' H8 ⟨⟨sh, z0, z1, z5⟩, wide, most, z3, z4, hwd, hmo, hn8, F8⟩
  obtain ⟨σ0, σ1, σ2, σ3, σ4, σ5, σ6, σ7, σ8, σ9, rfl⟩ : ∃ a b c d e f g h i j, σ' = [a, b, c, d, e, f, g, h, i, j] := by
    match σ', sh with
    | [a, b, c, d, e, f, g, h, i, j], _ => exact ⟨a, b, c, d, e, f, g, h, i, j, rfl⟩
  cases z0; cases z1; cases z3; cases z4; cases z5
  refine seq_with (fun σ' H' => (σ'.length = 10 ∧ σ'[0]? = some (some (.ref f)) ∧ σ'[1]? = some (some (.bl g)) ∧ σ'[3]? = some (some (.int wide)) ∧ σ'[4]? = some (some (.int most))) ∧ ∃ (bv : V) (bk : List Pg) (mn : Nat), σ'[6]? = some (some bv) ∧ KAt H' bv (.tup (pgs bk)) ∧ BkD nm2 mn bk ∧ mn ≤ 16 ∧ (g = false → mn ≤ 11) ∧ Feed H' f c 60) ?_ fun nx => ?_
  case refine_2 =>
    refine ⟨.ref f, rfl, .ref n, rfl, .bl g, rfl, g, rfl, ?_⟩
    cases g with
    | true =>
      rw [if_pos rfl]
      refine ⟨.int wide, rfl, f, c, n, 60, 16, nm2, wide, rfl, F8.le (by decide), hn8, ok2.nd, by omega, by omega, by decide, hwd.1, hwd.2, fun v H9 bk hv hb k9 F9 => ?_⟩
      exact nx _ _ ⟨⟨rfl, rfl, rfl, rfl, rfl⟩, v, bk, 16, rfl, hv, hb, by decide, (fun h => nomatch h), F9⟩
    | false =>
      rw [if_neg Bool.false_ne_true]
      refine rd_draw (m := 365) (many := 9) (Evl.ev_var rfl) Evl.ev_c (by decide) (by decide) F8 fun r H9 r0 r1 k9 F9 => ?_
      obtain ⟨rn, rfl⟩ : ∃ n : Nat, r = (n : Int) := ⟨r.toNat, by omega⟩
      have nf : n ≠ f := fun z => by
        obtain ⟨ns, a, l, t, e1, e2, e3⟩ := F8
        rw [z, e1] at hn8; cases hn8
      have e3 : (3 : Int) + (rn : Int) = ((3 + rn : Nat) : Int) := by omega
      refine ⟨_, _, rfl, rfl, .int wide, rfl, f, c, n, 60, 3 + rn, nm2, wide, by show [V.ref f, V.ref n, V.int (3 + (rn : Int)), V.int wide] = _; rw [e3], F9.le (by decide), k9 n _ nf hn8, ok2.nd, by omega, by omega, by omega, hwd.1, hwd.2, fun v H10 bk hv hb k10 F10 => ?_⟩
      exact nx _ _ ⟨⟨rfl, rfl, rfl, rfl, rfl⟩, v, bk, 3 + rn, rfl, hv, hb, by omega, fun _ => by omega, F10⟩
  clear F8 hn8
  rintro σ' H9 ⟨⟨sh, z0, z1, z3, z4⟩, bv, bk, mn, z6, hbv, hbk, hmn, hmg, F9⟩
  obtain ⟨σ0, σ1, σ2, σ3, σ4, σ5, σ6, σ7, σ8, σ9, rfl⟩ : ∃ a b c d e f g h i j, σ' = [a, b, c, d, e, f, g, h, i, j] := by
    match σ', sh with
    | [a, b, c, d, e, f, g, h, i, j], _ => exact ⟨a, b, c, d, e, f, g, h, i, j, rfl⟩
  cases z0; cases z1; cases z3; cases z4; cases z6
  refine seq_with (fun σ' H' => (σ'.length = 10 ∧ σ'[0]? = some (some (.ref f)) ∧ σ'[3]? = some (some (.int wide)) ∧ σ'[4]? = some (some (.int most))) ∧ ∃ (bv : V) (bk : List Pg), σ'[6]? = some (some bv) ∧ KAt H' bv (.tup (pgs bk)) ∧ BookOk nm2 bk ∧ Feed H' f c 60) ?_ fun nx => ?_
  case refine_2 =>
    refine Evl.s_if (et_B (Evl.ev_var rfl)) (fun hb H10 s10 => ?_) (fun hb H10 s10 => ?_)
    · refine s_asgK (k := .tup (pgs (noParts bk))) (ek_tupOf (ks := pgs (noParts bk)) ?_) fun v H11 s11 hv => ?_
      · rw [← noParts_pgs, ← List.map_id (List.filter _ _)]
        refine el_lc (v := fun k => k) (src_tup (ek_var rfl (hbv.mono s10))) (by unfold pgs; rw [List.length_map]; have := hbk.len; omega) fun k hk H11 x s11 hx => ?_
        obtain ⟨p, _, rfl⟩ := mem_pgs hk
        exact turn_name hx rfl (et_T (eb_neT (EvK.text (ek_ix (ek_var rfl hx) Evl.ev_c p.items0)) Evl.ev_c)) fun _ => ek_var rfl hx
      · exact nx _ _ ⟨⟨rfl, rfl, rfl, rfl⟩, v, noParts bk, rfl, hv, hbk.great hmn, (F9.same s10).same s11⟩
    · refine s_nil ?_
      exact nx _ _ ⟨⟨rfl, rfl, rfl, rfl⟩, bv, bk, rfl, hbv.mono s10, hbk.small (hmg hb) (by have := hjg hb; omega), F9.same s10⟩
  clear F9 hbk hbv hmn hmg
  rintro σ' H10 ⟨⟨sh, z0, z3, z4⟩, bv, bk, z6, hbv, hbk, F10⟩
  obtain ⟨σ0, σ1, σ2, σ3, σ4, σ5, σ6, σ7, σ8, σ9, rfl⟩ : ∃ a b c d e f g h i j, σ' = [a, b, c, d, e, f, g, h, i, j] := by
    match σ', sh with
    | [a, b, c, d, e, f, g, h, i, j], _ => exact ⟨a, b, c, d, e, f, g, h, i, j, rfl⟩
  cases z0; cases z3; cases z4; cases z6
  refine rd_draw (m := 59) (many := most) (Evl.ev_var rfl) (Evl.ev_var rfl) hmo.1 (by omega) F10 fun t1 H11 t10 t11 k11 F11 => ?_
  refine ⟨_, _, rfl, rfl, ?_⟩
  refine rd_draw (m := 58) (many := most) (Evl.ev_var rfl) (Evl.ev_var rfl) hmo.1 (by omega) F11 fun t2 H12 t20 t21 k12 F12 => ?_
  refine ⟨_, _, rfl, rfl, Nat.le_of_ble_eq_true rfl, fun tt htt => ?_⟩
  have n12 := F12.fresh htt
  have hbv12 := KAt.keep ((F10.tup k11).trans ((F11.tup k12).trans (.upd_new htt (o := .tup [.int (1 + t1), .int (1 + t2)])))) _ _ hbv
  have F13 := F12.upd (o := .tup [.int (1 + t1), .int (1 + t2)]) n12.1 n12.2
  have htv : KAt (upd H12 tt (.tup [.int (1 + t1), .int (1 + t2)])) (.ref tt) (.tup [.num (1 + t1), .num (1 + t2)]) := .tup upd_same (.cons (.num _) (.cons (.num _) .nil))
  dsimp only
  refine ⟨bv, rfl, .ref tt, rfl, ?_⟩
  obtain ⟨p0, rest, rfl⟩ : ∃ p0 rest, bk = p0 :: rest := by
    cases bk with
    | nil => exact absurd rfl hbk.ne
    | cons a b => exact ⟨a, b, rfl⟩
  have g0 := hbk.good p0 List.mem_cons_self
  generalize upd H12 tt (.tup [.int (1 + t1), .int (1 + t2)]) = H13 at hbv12 F13 htv
  clear hbv F12 F11 F10 k11 k12 n12 htt
  refine lc_rng (J := fun D i acc H' => (D ≠ f ∧ D ≠ c) ∧ KAt H' bv (.tup (pgs (p0 :: rest))) ∧ KAt H' (.ref tt) (.tup [.num (1 + t1), .num (1 + t2)]) ∧ Feed H' f c (10 - i) ∧ ∃ ds : List Int, acc = ds.map V.int ∧ ds.length = i ∧ ∀ d ∈ ds, 0 ≤ d ∧ d ≤ 9400) (n := 3) (by decide) (Evl.ea_cons Evl.ev_c Evl.ea_nil) (fun D H14 s14 hD => ?_) (fun D i acc H14 hi la hD hj Y N hY hN => ?_) fun D acc H14 hD la hj => ?_
  · have F14 := F13.same s14
    have n := F14.fresh hD
    exact ⟨n, KAt.keep (.upd_new hD) _ _ (hbv12.mono s14), KAt.keep (.upd_new hD) _ _ (htv.mono s14), (F14.upd n.1 n.2).le (by decide), [], rfl, rfl, fun d h => (nomatch h)⟩
  · obtain ⟨n, hb14, ht14, F14, ds, rfl, hl, hds⟩ := hj
    refine ⟨rfl, ?_⟩
    unfold tYes
    dsimp only
    rw [if_pos rfl]
    refine (EvK.num (ek_ix (ek_ix (ek_var rfl hb14) Evl.ev_c (k := p0.key) (atI_nat (j := 0) rfl)) Evl.ev_c p0.items1)) _ (Evl.Ex.refl _) _ fun H15 s15 => ?_
    refine rd_draw (m := 10 - (i + 1)) (many := wide + 9) (Evl.ev_var rfl) (ev_add (Evl.ev_var rfl) Evl.ev_c) (by omega) (by omega) ((F14.same s15).le (by omega)) fun r H16 r0 r1 k16 F16 => ?_
    have hD16 := k16 D _ n.1 (s15 _ _ hD)
    have t1 : TupLe H14 H16 := (TupLe.of_same s15).trans ((F14.same s15).tup k16)
    have t2 : ∀ {o : HO}, TupLe H16 (upd H16 D o) := fun {o} a ys ea => by
      rw [upd_ne (fun z => by rw [z, hD16] at ea; cases ea)]; exact ea
    refine ⟨_, _, rfl, rfl, hY _ _ hD16 ⟨n, KAt.keep (t1.trans t2) _ _ hb14, KAt.keep (t1.trans t2) _ _ ht14, F16.upd n.1 n.2, ds ++ [p0.day + r], by rw [List.map_append]; rfl, by rw [List.length_append, hl]; rfl, fun d hd => ?_⟩⟩
    rcases List.mem_append.mp hd with hd | hd
    · exact hds d hd
    · rw [List.mem_singleton.mp hd]
      have := g0.2
      omega
  · obtain ⟨n, hb14, ht14, F14, ds, rfl, hl, hds⟩ := hj
    obtain ⟨d1, d2, d3, rfl⟩ : ∃ a b c, ds = [a, b, c] := by
      match ds, hl with
      | [a, b, c], _ => exact ⟨a, b, c, rfl⟩
    refine ⟨Nat.le_of_ble_eq_true rfl, fun tp htp => ?_⟩
    have s15 := Same.up htp (o := .tup [bv, .ref tt, .ref D])
    exact q tp D bv (.ref tt) _ (p0 :: rest) (1 + t1, 1 + t2) d1 d2 d3 upd_same (hb14.mono s15) (ht14.mono s15) (s15 _ _ hD) ⟨⟨nm2, ok2, by omega, hbk⟩, ⟨by show 1 ≤ 1 + t1; omega, by show 1 + t1 ≤ 60; omega⟩, ⟨by show 1 ≤ 1 + t2; omega, by show 1 + t2 ≤ 60; omega⟩⟩ hds
end
end CB
/-! CBQ6 -/
set_option Elab.async false
set_option autoImplicit false
set_option linter.all false
set_option maxRecDepth 100000
set_option maxHeartbeats 2000000
/-! The marks counted. -/
namespace CB
open PySem PySem.Spec PyProof.Rows L2
open Evl (Ev EvT EvA EvO)
def dueOf (x : Pg × Mk) : Option Pg := match x.2 with
  | .due => some x.1
  | _ => none
def madeOf (l : List (Pg × Mk)) : List Pg := l.filterMap dueOf
def pnK (x : Pg × Nat) : NestedKey := .tup [x.1.key, .num (x.2 : Int)]
def manyOf (l : List (Pg × Mk)) : List (Pg × Nat) := l.filterMap ansOf
theorem kindGo (p : Pg) : decide (p.kind = "card" ∨ p.kind = "visit") = p.isGo := by
  have h : decide (("house" : Str) = "card" ∨ ("house" : Str) = "visit") = false ∧ decide (("part" : Str) = "card" ∨ ("part" : Str) = "visit") = false ∧ decide (("join" : Str) = "card" ∨ ("join" : Str) = "visit") = false ∧ decide (("home" : Str) = "card" ∨ ("home" : Str) = "visit") = false ∧ decide (("mourn" : Str) = "card" ∨ ("mourn" : Str) = "visit") = false ∧ decide (("ahead" : Str) = "card" ∨ ("ahead" : Str) = "visit") = false ∧ decide (("card" : Str) = "card" ∨ ("card" : Str) = "visit") = true ∧ decide (("visit" : Str) = "card" ∨ ("visit" : Str) = "visit") = true := by decide +kernel
  obtain ⟨h1, h2, h3, h4, h5, h6, h7, h8⟩ := h
  cases p
  · exact h1
  · exact h2
  · exact h3
  · exact h4
  · exact h5
  · exact h6
  · exact h7
  · exact h8
theorem go_in (p : Pg) : decide (NestedKey.text p.kind ∈ [NestedKey.text "card", NestedKey.text "visit"]) = p.isGo := by
  rw [← kindGo]
  refine decide_eq_decide.mpr ?_
  simp only [List.mem_cons, NestedKey.text.injEq, List.not_mem_nil, or_false]
def mkI : Mk → List NestedKey
  | .idle => [.text "idle"]
  | .done => [.text "done"]
  | .due => [.text "due"]
  | .ans n => [.text "answer", .num n]
theorem mkK_I (m : Mk) : mkK m = .tup (mkI m) := by cases m <;> rfl
def isDue : Mk → Bool
  | .due => true
  | _ => false
def isIdle : Mk → Bool
  | .idle => true
  | _ => false
def isDone : Mk → Bool
  | .done => true
  | _ => false
theorem one_text (a b : Str) : decide ([NestedKey.text a] = [NestedKey.text b]) = decide (a = b) := by
  refine decide_eq_decide.mpr ?_
  simp only [List.cons.injEq, NestedKey.text.injEq, and_true]
theorem two_text (a b : Str) (k : NestedKey) : decide ([NestedKey.text a, k] = [NestedKey.text b]) = false := by
  refine decide_eq_false ?_
  simp
theorem mk_due (m : Mk) : decide (mkI m = [.text "due"]) = isDue m := by
  have h : decide (("idle" : Str) = "due") = false ∧ decide (("done" : Str) = "due") = false ∧ decide (("due" : Str) = "due") = true := by decide +kernel
  cases m
  · exact (one_text _ _).trans h.1
  · exact (one_text _ _).trans h.2.1
  · exact (one_text _ _).trans h.2.2
  · exact two_text _ _ _
theorem mk_idle (m : Mk) : decide (mkI m = [.text "idle"]) = isIdle m := by
  have h : decide (("idle" : Str) = "idle") = true ∧ decide (("done" : Str) = "idle") = false ∧ decide (("due" : Str) = "idle") = false := by decide +kernel
  cases m
  · exact (one_text _ _).trans h.1
  · exact (one_text _ _).trans h.2.1
  · exact (one_text _ _).trans h.2.2
  · exact two_text _ _ _
theorem mk_done (m : Mk) : decide (mkI m = [.text "done"]) = isDone m := by
  have h : decide (("idle" : Str) = "done") = false ∧ decide (("done" : Str) = "done") = true ∧ decide (("due" : Str) = "done") = false := by decide +kernel
  cases m
  · exact (one_text _ _).trans h.1
  · exact (one_text _ _).trans h.2.1
  · exact (one_text _ _).trans h.2.2
  · exact two_text _ _ _
theorem mkI_depth (m : Mk) : NestedKey.depthAll (mkI m) ≤ 30 := by cases m <;> exact Nat.le_of_ble_eq_true rfl
theorem two_num (m : Mk) (h : decide (((mkI m).length : Int) = 2) = true) : ∃ n, m = .ans n := by
  have h' := of_decide_eq_true h
  cases m
  · exact absurd h' (by decide)
  · exact absurd h' (by decide)
  · exact absurd h' (by decide)
  · exact ⟨_, rfl⟩
def hdT : Mk → Str
  | .idle => "idle"
  | .done => "done"
  | .due => "due"
  | .ans _ => "answer"
def numOf : Mk → Nat
  | .ans n => n
  | _ => 0
theorem mkI_hd (m : Mk) : atI (mkI m) 0 = some (.text (hdT m)) := by cases m <;> rfl
theorem mk_take {ms : List (Pg × Mk)} {i : Nat} {x : Pg × Mk} (h : ms[i]? = some x) : ms.take (i + 1) = ms.take i ++ [x] := by rw [List.take_add_one, h]; simp
theorem keep_at {H : Hp} {p : Addr} {xs ys : List V} (h : H p = some (.lst xs)) : TupLe H (upd H p (.lst ys)) := fun a zs e => by
  rw [upd_ne (fun z => by rw [z, h] at e; cases e)]; exact e
section
variable {P : Program} {w : World} {K : PySem.W.Frag} {mg : Str → Option Value} {base : Heap} (T : Tp K mg)
include T
def spCnt : Sp := fun vs H Q _ => ∃ (l : Addr) (xs : List V) (ms : List (Pg × Mk)), vs = [.ref l] ∧ H l = some (.lst xs) ∧ KAll H xs (ms.map markK) ∧ ms.length ≤ 900 ∧ (∀ x ∈ ms, markOk x) ∧
  ∀ (tp a b : Addr) (xa xb : List V) (H' : Hp), H tp = none → Same H H' → H' tp = some (.tup [.ref a, .ref b]) → H' a = some (.lst xa) → KAll H' xa (pgs (madeOf ms)) → H' b = some (.lst xb) → KAll H' xb ((manyOf ms).map pnK) → Q (.ref tp) H'
theorem ok_l_counted : Ok P w K mg base 1 ("_law_counted", none) ["_law_told"] spCnt := by
  refine ok_of T.f_l_counted c_l_counted (fun _ _ _ _ _ _ us hl => match us, hl with | [_], _ => rfl) (fun vs H Q E ⟨l, xs, ms, e, _⟩ => by rw [e]; rfl) (fun cdv A outer s0 H vs Q E hr h => ?_)
  obtain ⟨l, xs, ms, rfl, hl, hk, hlen, hok, q⟩ := h
  have hu := hr.units
  refine ⟨_, pss_cons (ps_par (i := 1) (j := 2) rfl c_l_counted.nd rfl rfl (by decide) rfl rfl (pa_cons (pe_lst pa_nil) (pa_cons (pe_lst pa_nil) pa_nil)) (by rfl))
    (pss_cons (ps_for .never rfl (pi_list (pv 0)) (pg_tup rfl (pgs_cons (pg_name (i := 3) c_l_counted.nd rfl (.inl rfl)) (pgs_cons (pg_name (i := 4) c_l_counted.nd rfl (.inl rfl)) pgs_nil)))
      (pss_cons (ps_set (i := 5) c_l_counted.nd rfl (.inl rfl) (pe_cmpR (op_inN hu) (pe_ix ix_tup (pv 3) pe_int (fun _ _ => rfl)) (pe_tup (pa_cons pe_str (pa_cons pe_str pa_nil))) (by with_unfolding_all rfl)))
      (pss_one (ps_if (PW.pt (pw_and (pt_cmpR (op_eqN hu) (pv 4) (pe_tup (pa_cons pe_str pa_nil)) (nomark _)) (pw_and1 (pt_val (pv 5)))))
        (pss_one (ps_expr (pe_bm PySem.F.plainAttrs_list PySem.F.slot_list_append PySem.F.type_list_append mt_append (pv 1) (pa_cons (pv 3) pa_nil))))
        (pss_one (ps_if (PW.pt (pw_and (pt_val (pv 5)) (pw_and (pt_cmpR op_eq (pe_callB call_len_seq (by rfl) T.b_len PySem.boot_len (pa_cons (pv 4) pa_nil)) pe_int (nomark _)) (pw_and (pt_cmpR op_eq (pe_ix ix_tup (pv 4) pe_int (fun _ _ => rfl)) pe_str (nomark _)) (pw_and1 (pt_cmpR op_gt (pe_ix ix_tup (pv 4) pe_int (fun _ _ => rfl)) pe_int (nomark _)))))))
          (pss_one (ps_expr (pe_bm PySem.F.plainAttrs_list PySem.F.slot_list_append PySem.F.type_list_append mt_append (pv 2) (pa_cons (pe_tup (pa_cons (pv 3) (pa_cons (pe_ix ix_tup (pv 4) pe_int (fun _ _ => rfl)) pa_nil))) pa_nil))))
          (pss_one (ps_if (PW.pt (pw_and (pt_cmpR (op_neN hu) (pv 4) (pe_tup (pa_cons pe_str pa_nil)) (nomark _)) (pw_and1 (PW.pt (pw_or (pt_val (pv 5)) (pw_or1 (pt_cmpR (op_neN hu) (pv 4) (pe_tup (pa_cons pe_str pa_nil)) (nomark _))))))))
            (pss_one (ps_ret pe_non)) pss_nil))))))))
    (pss_one (ps_ret (pe_tup (pa_cons (pv 1) (pa_cons (pv 2) pa_nil)))))), ?_⟩
  refine ⟨Nat.zero_le _, fun a ha => ⟨Nat.zero_le _, fun b hb => ⟨_, _, rfl, ?_⟩⟩⟩
  have hab : a ≠ b := by
    intro z
    rw [← z, upd_same] at hb; cases hb
  have hb0 : H b = none := by rw [upd_ne hab.symm] at hb; exact hb
  have s2 : Same H (upd (upd H a (.lst [])) b (.lst [])) := (Same.up ha).up2 hb0
  have ha2 : (upd (upd H a (.lst [])) b (.lst [])) a = some (.lst []) := by rw [upd_ne hab]; exact upd_same
  have hb2 : (upd (upd H a (.lst [])) b (.lst [])) b = some (.lst []) := upd_same
  generalize upd (upd H a (.lst [])) b (.lst []) = H2 at s2 ha2 hb2
  have lx : xs.length = ms.length := by rw [hk.length, List.length_map]
  dsimp only
  refine Evl.s_forL (Evl.ev_var rfl) (.of (s2 _ _ hl)) (fun i σ' H' => (σ'.length = 6 ∧ σ'[0]? = some (some (.ref l)) ∧ σ'[1]? = some (some (.ref a)) ∧ σ'[2]? = some (some (.ref b))) ∧ Same H H' ∧ ∃ xa xb, H' a = some (.lst xa) ∧ KAll H' xa (pgs (madeOf (ms.take i))) ∧ H' b = some (.lst xb) ∧ KAll H' xb ((manyOf (ms.take i)).map pnK))
    (fun H3 s3 => ⟨⟨rfl, rfl, rfl, rfl⟩, s2.tr s3, [], [], s3 _ _ ha2, .nil, s3 _ _ hb2, .nil⟩) (fun i σ' H' _ h => .of (h.2.1 _ _ hl)) ?_ ?_
  · rintro i v σ' H3 hi ⟨⟨sh, z0, z1, z2⟩, s3, xa, xb, ha3, hka, hb3, hkb⟩
    obtain ⟨k, hk', hv⟩ := hk.getV hi
    rw [List.getElem?_map] at hk'
    obtain ⟨⟨p, m⟩, hpm, rfl⟩ := Option.map_eq_some_iff.mp hk'
    have okm := hok _ (List.mem_of_getElem? hpm)
    have ht := mk_take hpm
    have li : i < ms.length := (List.getElem?_eq_some_iff.mp hpm).1
    obtain ⟨σ0, σ1, σ2, σ3, σ4, σ5, rfl⟩ : ∃ a b c d e f, σ' = [a, b, c, d, e, f] := by
      match σ', sh with
      | [a, b, c, d, e, f], _ => exact ⟨a, b, c, d, e, f, rfl⟩
    cases z0; cases z1; cases z2
    obtain ⟨tp, txs, rfl, h1, h2⟩ := (hv.mono s3).tupRef
    cases h2 with
    | cons g1 h2 =>
    cases h2 with
    | cons g2 h2 =>
    cases h2
    dsimp only at g1 g2
    rw [mkK_I] at g2
    refine ⟨tp, _, rfl, .of h1, rfl, _, _, rfl, _, _, rfl, rfl, ?_⟩
    dsimp only
    refine Evl.s_asg (v := .bl p.isGo) (Evl.ev_is (eb_inK (neg := false) (ek_ix (ek_var rfl g1) Evl.ev_c p.items0) (ek_tup (eks_cons ek_str (eks_cons ek_str eks_nil))) (Nat.le_of_ble_eq_true rfl)) (by rw [if_neg Bool.false_ne_true, go_in])) fun H4 s4 => ?_
    have g1' := g1.mono s4
    have g2' := g2.mono s4
    dsimp only
    have la : xa.length ≤ 2000 := by
      have e1 := hka.length
      have e2 : (madeOf (ms.take i)).length ≤ (ms.take i).length := List.length_filterMap_le _ _
      unfold pgs at e1
      rw [List.length_map] at e1
      rw [List.length_take] at e2
      omega
    have lb : xb.length ≤ 2000 := by
      have e1 := hkb.length
      have e2 : (manyOf (ms.take i)).length ≤ (ms.take i).length := List.length_filterMap_le _ _
      rw [List.length_map] at e1
      rw [List.length_take] at e2
      omega
    have ma : ∀ o, dueOf (p, m) = o → madeOf (ms.take (i + 1)) = madeOf (ms.take i) ++ o.toList := fun o e => by
      unfold madeOf
      rw [ht, List.filterMap_append, List.filterMap_cons, e]
      cases o <;> simp
    have mb : ∀ o, ansOf (p, m) = o → manyOf (ms.take (i + 1)) = manyOf (ms.take i) ++ o.toList := fun o e => by
      unfold manyOf
      rw [ht, List.filterMap_append, List.filterMap_cons, e]
      cases o <;> simp
    refine Evl.s_if (b := isDue m && p.isGo) (Evl.et_and (et_T (Evl.ev_is (eb_eqN (ek_var rfl g2') (ek_tup (eks_cons ek_str eks_nil)) (mkI_depth m)) (by rw [mk_due]))) fun _ => et_B (Evl.ev_var rfl)) (fun hc H5 s5 => ?_) (fun hc H5 s5 => ?_)
    · have hm : m = .due := by
        cases m <;> first | rfl | (simp [isDue] at hc)
      subst hm
      have s35 := s4.tr s5
      have ha5 := s35 _ _ ha3
      refine s_app (k := p.key) (Evl.ev_var rfl) (eks_cons (ek_var rfl (g1'.mono s5)) eks_nil) ha5 la fun u H6 W6 hu6 => ?_
      have t56 : TupLe H5 H6 := W6.tup fun ys ex => by rw [ha5] at ex; cases ex
      refine ⟨⟨rfl, rfl, rfl, rfl⟩, fun d o ex => W6.keep d o (ne_of_none ex ha) (s35 _ _ (s3 _ _ ex)), _, xb, W6.at_, ?_, W6.keep b _ hab.symm (s35 _ _ hb3), ?_⟩
      · rw [ma (some p) rfl]
        unfold pgs
        rw [List.map_append]
        exact (KAll.keep t56 _ _ (hka.mono s35)).append (.cons hu6 .nil)
      · rw [mb none rfl, Option.toList_none, List.append_nil]
        exact KAll.keep t56 _ _ (hkb.mono s35)
    refine Evl.s_if (b := p.isGo && (decide (((mkI m).length : Int) = 2) && (decide (hdT m = "answer") && decide (0 < (numOf m : Int))))) (Evl.et_and (et_B (Evl.ev_var rfl)) fun _ => Evl.et_and (et_T (eb_eqI (ek_len (ek_var rfl (g2'.mono s5))) Evl.ev_c)) fun h2 => Evl.et_and (et_T (eb_eqT (EvK.text (ek_ix (ek_var rfl (g2'.mono s5)) Evl.ev_c (mkI_hd m))) Evl.ev_c)) fun _ => ?_) (fun hc2 H6 s6 => ?_) (fun hc2 H6 s6 => ?_)
    · obtain ⟨n, rfl⟩ := two_num m h2
      exact et_T (eb_gtI (EvK.num (ek_ix (ek_var rfl (g2'.mono s5)) Evl.ev_c rfl)) Evl.ev_c)
    · have h2 : decide (((mkI m).length : Int) = 2) = true := by
        rw [Bool.and_eq_true, Bool.and_eq_true] at hc2
        exact hc2.2.1
      obtain ⟨n, rfl⟩ := two_num m h2
      have s36 := (s4.tr s5).tr s6
      have hb6 := s36 _ _ hb3
      refine s_app (k := pnK (p, n)) (Evl.ev_var rfl) (eks_cons (ek_tup (eks_cons (ek_var rfl (g1'.mono (s5.tr s6))) (eks_cons (ek_ix (ek_var rfl (g2'.mono (s5.tr s6))) Evl.ev_c rfl) eks_nil))) eks_nil) hb6 lb fun u H7 W7 hu7 => ?_
      have t67 : TupLe H6 H7 := W7.tup fun ys ex => by rw [hb6] at ex; cases ex
      refine ⟨⟨rfl, rfl, rfl, rfl⟩, fun d o ex => W7.keep d o (ne_of_none ex hb0) (s36 _ _ (s3 _ _ ex)), xa, _, W7.keep a _ hab (s36 _ _ ha3), ?_, W7.at_, ?_⟩
      · rw [ma none rfl, Option.toList_none, List.append_nil]
        exact KAll.keep t67 _ _ (hka.mono s36)
      · rw [mb (some (p, n)) rfl, List.map_append]
        exact (KAll.keep t67 _ _ (hkb.mono s36)).append (.cons hu7 .nil)
    have hf : ((!isIdle m) && (p.isGo || !isDone m)) = false := by
      cases m with
      | idle => rfl
      | done =>
        have : p.isGo = false := okm
        rw [this]; rfl
      | due =>
        have : p.isGo = true := okm
        rw [this] at hc
        cases hc
      | ans n =>
        have h1 : p.isGo = true ∧ 0 < n := okm
        exfalso
        have h3 : decide (((mkI (.ans n)).length : Int) = 2) = true := rfl
        have h4 : decide (hdT (.ans n) = "answer") = true := decide_eq_true rfl
        have h5 : decide (0 < (numOf (.ans n) : Int)) = true := decide_eq_true (by show (0 : Int) < (n : Int); omega)
        rw [h1.1, h3, h4, h5] at hc2
        cases hc2
    have s36 := (s4.tr s5).tr s6
    refine Evl.s_if (b := (!isIdle m) && (p.isGo || !isDone m)) (Evl.et_and (et_T (Evl.ev_is (eb_neN (ek_var rfl (g2'.mono (s5.tr s6))) (ek_tup (eks_cons ek_str eks_nil)) (mkI_depth m)) (by rw [mk_idle]))) fun _ => Evl.et_or (et_B (Evl.ev_var rfl)) fun _ => et_T (Evl.ev_is (eb_neN (ek_var rfl (g2'.mono (s5.tr s6))) (ek_tup (eks_cons ek_str eks_nil)) (mkI_depth m)) (by rw [mk_done]))) (fun hc3 H7 s7 => ?_) (fun hc3 H7 s7 => ?_)
    · rw [hf] at hc3; cases hc3
    · refine s_nil ?_
      have s37 := s36.tr s7
      have e1 : dueOf (p, m) = none := by
        cases m with
        | due => rw [okm] at hc; cases hc
        | _ => rfl
      have e2 : ansOf (p, m) = none := by
        cases m with
        | ans n =>
          have h1 : p.isGo = true ∧ 0 < n := okm
          exfalso
          have h3 : decide (((mkI (.ans n)).length : Int) = 2) = true := rfl
          have h4 : decide (hdT (.ans n) = "answer") = true := decide_eq_true rfl
          have h5 : decide (0 < (numOf (.ans n) : Int)) = true := decide_eq_true (by show (0 : Int) < (n : Int); omega)
          rw [h1.1, h3, h4, h5] at hc2
          cases hc2
        | _ => rfl
      refine ⟨⟨rfl, rfl, rfl, rfl⟩, s3.tr s37, xa, xb, s37 _ _ ha3, ?_, s37 _ _ hb3, ?_⟩
      · rw [ma none e1, Option.toList_none, List.append_nil]
        exact hka.mono s37
      · rw [mb none e2, Option.toList_none, List.append_nil]
        exact hkb.mono s37
  · rintro σ' H3 ⟨⟨sh, z0, z1, z2⟩, s3, xa, xb, ha3, hka, hb3, hkb⟩
    rw [lx, List.take_length] at hka hkb
    refine ⟨.ref a, z1, .ref b, z2, Nat.le_of_ble_eq_true rfl, fun tp htp => ?_⟩
    have s4 := Same.up htp (o := .tup [.ref a, .ref b])
    exact q tp a b xa xb _ (s3.no htp) (s3.tr s4) upd_same (s4 _ _ ha3) (hka.mono s4) (s4 _ _ hb3) (hkb.mono s4)
end
end CB
/-! CBQ7 -/
set_option Elab.async false
set_option autoImplicit false
set_option linter.all false
set_option maxRecDepth 100000
set_option maxHeartbeats 2000000
/-! What is shown is short; who stands; how many pairs. -/
namespace CB
open PySem PySem.Spec PyProof.Rows L2
structure Tm (k : NestedKey) (d b : Nat) : Prop where
  dep : k.depth ≤ d
  sh : k.data.showable = true
  lv : k.data.leavesShort 8 = true
  bk : k.data.bulk ≤ b
structure Ta (ks : List NestedKey) (d b : Nat) : Prop where
  dep : NestedKey.depthAll ks ≤ d
  sh : PyData.showableAll (NestedKey.datas ks) = true
  lv : PyData.leavesShortAll 8 (NestedKey.datas ks) = true
  bk : PyData.bulkAll (NestedKey.datas ks) ≤ b
theorem Ta.nil {d b : Nat} : Ta [] d b := ⟨Nat.zero_le _, by simp [NestedKey.datas, PyData.showableAll], by simp [NestedKey.datas, PyData.leavesShortAll], by simp [NestedKey.datas, PyData.bulkAll]⟩
theorem Ta.cons {k : NestedKey} {ks : List NestedKey} {d b c : Nat} (h : Tm k d b) (t : Ta ks d c) : Ta (k :: ks) d (b + 1 + c) where
  dep := by simp only [NestedKey.depthAll]; exact Nat.max_le.mpr ⟨h.dep, t.dep⟩
  sh := by simp only [NestedKey.datas, PyData.showableAll, h.sh, t.sh, Bool.and_self]
  lv := by simp only [NestedKey.datas, PyData.leavesShortAll, h.lv, t.lv, Bool.and_self]
  bk := by
    have := h.bk
    have := t.bk
    simp only [NestedKey.datas, PyData.bulkAll]
    omega
theorem Ta.le {ks : List NestedKey} {d b d' b' : Nat} (t : Ta ks d b) (h1 : d ≤ d') (h2 : b ≤ b') : Ta ks d' b' := ⟨Nat.le_trans t.dep h1, t.sh, t.lv, Nat.le_trans t.bk h2⟩
theorem Tm.le {k : NestedKey} {d b d' b' : Nat} (t : Tm k d b) (h1 : d ≤ d') (h2 : b ≤ b') : Tm k d' b' := ⟨Nat.le_trans t.dep h1, t.sh, t.lv, Nat.le_trans t.bk h2⟩
theorem Tm.tup {ks : List NestedKey} {d b : Nat} (t : Ta ks d b) : Tm (.tup ks) (d + 1) b where
  dep := by
    have := t.dep
    simp only [NestedKey.depth]; omega
  sh := by simp only [NestedKey.data, PyData.showable]; exact t.sh
  lv := by simp only [NestedKey.data, PyData.leavesShort]; exact t.lv
  bk := by simp only [NestedKey.data, PyData.bulk]; exact t.bk
theorem Tm.num {i : Int} {d b : Nat} (h : i.natAbs < 10 ^ 7) : Tm (.num i) d b where
  dep := by simp only [NestedKey.depth]; exact Nat.zero_le _
  sh := by
    simp only [NestedKey.data, PyData.showable]
    refine decide_eq_true ?_
    by_cases z : i.natAbs = 0
    · rw [z]; decide
    · have h24 : i.natAbs.log2 < 24 := (Nat.log2_lt z).mpr (Nat.lt_of_lt_of_le h (by decide))
      omega
  lv := by
    simp only [NestedKey.data, PyData.leavesShort]
    refine decide_eq_true ?_
    have e := int_text_length_le10 (k := 7) (by decide) h
    show (Str.ofString (toString i)).length ≤ 8
    rw [PySem.ofString_length]; exact e
  bk := by simp only [NestedKey.data, PyData.bulk]; exact Nat.zero_le _
theorem Tm.text {s : Str} {d n : Nat} (hc : ∀ c ∈ s.cps.toList, c < 128) (hl : s.length ≤ n) : Tm (.text s) d n where
  dep := by simp only [NestedKey.depth]; exact Nat.zero_le _
  sh := by simp only [NestedKey.data, PyData.showable]
  lv := by
    simp only [NestedKey.data, PyData.leavesShort]
    exact List.all_eq_true.mpr fun c h => decide_eq_true (Nat.lt_of_lt_of_le (hc c h) (by decide))
  bk := by simp only [NestedKey.data, PyData.bulk]; exact hl
theorem Tm.name {s : Str} {d : Nat} (h : nmS s) : Tm (.text s) d 9 := .text h.2 h.1
theorem Ta.all {ks : List NestedKey} {d b : Nat} (h : ∀ k ∈ ks, Tm k d b) : Ta ks d (ks.length * (b + 1)) := by
  induction ks with
  | nil => exact .nil
  | cons k ks ih =>
    refine (Ta.cons (h k List.mem_cons_self) (ih fun k hk => h k (List.mem_cons_of_mem _ hk))).le (Nat.le_refl _) ?_
    rw [List.length_cons, Nat.add_mul]
    omega
theorem Ta.nums {l : List Int} {d : Nat} (h : ∀ i ∈ l, 0 ≤ i ∧ i ≤ 90000) : Ta (CB.nums l) d l.length := by
  have := Ta.all (ks := CB.nums l) (d := d) (b := 0) fun k hk => by
    obtain ⟨i, hi, rfl⟩ := List.mem_map.mp hk
    have := h i hi
    exact .num (by omega)
  refine this.le (Nat.le_refl _) ?_
  unfold CB.nums
  rw [List.length_map]; omega
/-- what repr asks -/
structure ShowOk (ks : List NestedKey) : Prop where
  dep : NestedKey.depthAll ks ≤ 30
  sh : PyData.showableAll (NestedKey.datas ks) = true
  len : (PyData.shown (.list (NestedKey.datas ks))).length ≤ sizeLine
theorem Ta.show {ks : List NestedKey} {d b : Nat} (t : Ta ks d b) (hd : d ≤ 30) (hb : b ≤ 1600000) : ShowOk ks where
  dep := Nat.le_trans t.dep hd
  sh := t.sh
  len := by
    have := PyData.shown_le_bulk 8 (by decide) (.list (NestedKey.datas ks)) (by simp only [PyData.leavesShort]; exact t.lv)
    have e : PyData.bulk (.list (NestedKey.datas ks)) = PyData.bulkAll (NestedKey.datas ks) := by simp only [PyData.bulk]
    rw [e] at this
    have := t.bk
    rw [sizeLine_eq]
    omega
theorem kind_nm (p : Pg) : nmS p.kind := by
  have h : nmS "house" ∧ nmS "part" ∧ nmS "join" ∧ nmS "home" ∧ nmS "mourn" ∧ nmS "ahead" ∧ nmS "card" ∧ nmS "visit" := by decide +kernel
  obtain ⟨h1, h2, h3, h4, h5, h6, h7, h8⟩ := h
  cases p
  · exact h1
  · exact h2
  · exact h3
  · exact h4
  · exact h5
  · exact h6
  · exact h7
  · exact h8
theorem sort_nm : nmS sV ∧ nmS sC := by decide +kernel
section
variable {nm : List Str} (ok : NmOk nm)
include ok
theorem tm_home {l : List Int} (h : homeOk l) : Tm (.tup (nums l)) 1 7 :=
  (Tm.tup (Ta.nums (d := 0) fun i hi => by have := h.2 i hi; omega)).le (Nat.le_refl _) h.1
theorem tm_page {p : Pg} (g : p.good nm) : Tm p.key 2 60 := by
  obtain ⟨f, d0, d1⟩ := g
  have hd : ∀ {d b : Nat}, Tm (.num p.day) d b := .num (by omega)
  have hk : ∀ {d : Nat}, Tm (.text p.kind) d 9 := .name (kind_nm p)
  have key : ∀ {b : Nat}, Ta p.rest 1 b → b ≤ 40 → Tm p.key 2 60 := fun t hb => (Tm.tup (.cons hk (.cons (hd (b := 0)) t))).le (Nat.le_refl _) (by omega)
  cases p with
  | house d a h => exact key (.cons (.name (ok.ok a f.1)) (.cons (tm_home ok f.2) (.nil (b := 0)))) (by decide)
  | part d a b h => exact key (.cons (.name (ok.ok a f.1)) (.cons (.name (ok.ok b f.2.1)) (.cons (tm_home ok f.2.2.2) (.nil (b := 0))))) (by decide)
  | join d a b => exact key (.cons (.name (ok.ok a f.1)) (.cons (.name (ok.ok b f.2.1)) (.nil (b := 0)))) (by decide)
  | home d a h => exact key (.cons (.name (ok.ok a f.1)) (.cons (tm_home ok f.2) (.nil (b := 0)))) (by decide)
  | mourn d a m => exact key (.cons (.name (ok.ok a f.1)) (.cons (.num (b := 0) (by have := f.2; omega)) (.nil (b := 0)))) (by decide)
  | ahead d a b => exact key (.cons (.name (ok.ok a f.1)) (.cons (.name (ok.ok b f.2.1)) (.nil (b := 0)))) (by decide)
  | card d a b => exact key (.cons (.name (ok.ok a f.1)) (.cons (.name (ok.ok b f.2.1)) (.nil (b := 0)))) (by decide)
  | visit d a b => exact key (.cons (.name (ok.ok a f.1)) (.cons (.name (ok.ok b f.2.1)) (.nil (b := 0)))) (by decide)
omit ok in
theorem fine_unlike {p : Pg} (f : p.fine nm) : p.unlike := by
  cases p with
  | house d a h => trivial
  | part d a b h => exact f.2.2.1
  | join d a b => exact f.2.2
  | home d a h => trivial
  | mourn d a m => trivial
  | ahead d a b => exact f.2.2
  | card d a b => exact f.2.2
  | visit d a b => exact f.2.2
omit ok in
theorem stands_sub : ∀ (ps : List Pg) (s : HS), (∀ p ∈ ps, p.fine nm) → (∀ n ∈ s.stands, n ∈ nm) → ∀ n ∈ (ps.foldl HS.meet s).stands, n ∈ nm
  | [], s, _, hs => hs
  | p :: ps, s, hf, hs => by
    rw [List.foldl_cons]
    refine stands_sub ps (s.meet p) (fun q hq => hf q (List.mem_cons_of_mem _ hq)) ?_
    have f := hf p List.mem_cons_self
    unfold HS.meet
    split
    · cases p with
      | house d a h =>
        intro n hn
        have hn' : n ∈ s.stands ++ [a] := hn
        rcases List.mem_append.mp hn' with h' | h'
        · exact hs n h'
        · rw [List.mem_singleton.mp h']; exact f.1
      | part d a b h =>
        intro n hn
        have hn' : n ∈ s.stands ++ [b] := hn
        rcases List.mem_append.mp hn' with h' | h'
        · exact hs n h'
        · rw [List.mem_singleton.mp h']; exact f.2.1
      | join d a b =>
        intro n hn
        have hn' : n ∈ s.stands.filter fun x => decide (x ≠ b) := hn
        exact hs n (List.mem_filter.mp hn').1
      | home d a h => exact hs
      | mourn d a m => exact hs
      | ahead d a b => exact hs
      | card d a b => exact hs
      | visit d a b => exact hs
    · exact hs
end
/-! the sorts are two -/
def SL (w : WS) : Prop := ∀ e ∈ w.sorts, e.2 = sV ∨ e.2 = sC
theorem part_sorts (a b : Str) : ∀ (L : List Due) (ws : WS), (L.foldl (WS.partStep a b) ws).sorts = ws.sorts
  | [], ws => rfl
  | d :: L, ws => by
    rw [List.foldl_cons, part_sorts a b L]
    unfold WS.partStep
    split <;> rfl
theorem lay_sorts (ws : WS) (d : Due) (f : List Int) : (ws.lay d f).sorts = ws.sorts := by
  unfold WS.lay
  split
  · rfl
  · split <;> rfl
theorem join_sorts (a b : Str) : ∀ (L : List Due) (ws : WS), (L.foldl (WS.joinStep a b) ws).sorts = ws.sorts
  | [], ws => rfl
  | d :: L, ws => by
    rw [List.foldl_cons, join_sorts a b L]
    unfold WS.joinStep
    split
    · split
      · rfl
      · rw [lay_sorts]
    · rfl
theorem go_sorts (w : WS) (p : Pg) (a b : Str) (h : SL w) : SL (w.go p a b).1 := by
  unfold WS.go
  split
  · intro e he
    have he' : e ∈ aput w.sorts p (w.goSort p) := he
    rcases mem_aput he' with h' | h'
    · exact h e h'
    · rw [h']
      show w.goSort p = sV ∨ w.goSort p = sC
      unfold WS.goSort
      split
      · exact .inl rfl
      · exact .inr rfl
  · exact h
theorem mark_sorts (lost : List Pg) (w : WS) (p : Pg) (h : SL w) : SL (w.mark lost p) := by
  show SL (w.put lost p).1
  unfold WS.put
  split
  · exact h
  · cases p with
    | card d a b => exact go_sorts w _ a b h
    | visit d a b => exact go_sorts w _ a b h
    | part d a b hh =>
      intro e he
      have he' : e ∈ (w.part a b).sorts := he
      unfold WS.part at he'
      rw [part_sorts] at he'
      exact h e he'
    | join d a b =>
      intro e he
      have he' : e ∈ (w.join a b).sorts := he
      unfold WS.join at he'
      rw [join_sorts] at he'
      exact h e he'
    | house d a hh => exact h
    | home d a hh => exact h
    | mourn d a m => exact h
    | ahead d a b => exact h
theorem eat_sorts (lost : List Pg) (day : Int) : ∀ (rest : List Pg) (w : WS), SL w → SL (WS.eat lost day rest w).1
  | [], w, h => h
  | p :: r, w, h => by
    unfold WS.eat
    split
    · exact eat_sorts lost day r _ (mark_sorts lost w p h)
    · exact h
theorem run_sorts (t : Int × Int) (lost : List Pg) : ∀ (n : Nat) (first : Int) (w : WS) (rest : List Pg), SL w → SL (WS.run t lost first n (w, rest)).1
  | 0, first, w, rest, h => h
  | n + 1, first, w, rest, h => by
    have h2 := eat_sorts lost first rest w h
    refine run_sorts t lost n (first + 1) _ _ ?_
    intro e he
    rw [(fall_facts t first (WS.eat lost first rest w).1).1.sorts] at he
    exact h2 e he
theorem goTo_sorts (t : Int × Int) (book : List Pg) (last : Int) : SL (WS.goTo t book last) := by
  unfold WS.goTo
  split
  · exact fun e h => (nomatch h)
  · exact run_sorts t _ _ _ _ _ fun e h => (nomatch h)
theorem SL.of {w : WS} (h : SL w) (p : Pg) : w.sortOf p = sV ∨ w.sortOf p = sC := by
  unfold WS.sortOf
  cases e : aget w.sorts p with
  | none => exact .inr rfl
  | some s => exact h (p, s) (aget_mem e)
end CB
/-! CBQ8 -/
set_option Elab.async false
set_option autoImplicit false
set_option linter.all false
set_option maxRecDepth 100000
set_option maxHeartbeats 2000000
/-! What the law asks, of the walk's state. -/
namespace CB
open PySem PySem.Spec PyProof.Rows L2
theorem capN_filter (l : List Pg) (f : Pg → Bool) : capN (l.filter f) ≤ capN l :=
  Nat.mul_le_mul (List.Sublist.countP_le List.filter_sublist) (Nat.pow_le_pow_right (by decide) (List.Sublist.countP_le List.filter_sublist))
theorem madeOf_len : ∀ ms : List (Pg × Mk), (madeOf ms).length = ms.countP fun x => decide (x.2 = Mk.due)
  | [] => rfl
  | (p, m) :: ms => by
    have ih := madeOf_len ms
    unfold madeOf at ih ⊢
    rw [List.filterMap_cons, List.countP_cons]
    cases m <;> simp [dueOf, ih]
theorem mem_madeOf {ms : List (Pg × Mk)} {p : Pg} (h : (p, Mk.due) ∈ ms) : p ∈ madeOf ms := List.mem_filterMap.mpr ⟨_, h, rfl⟩
theorem many_go {ms : List (Pg × Mk)} (ok : ∀ x ∈ ms, markOk x) {x : Pg × Nat} (h : x ∈ manyOf ms) : x.1.isGo = true := by
  obtain ⟨⟨p, m⟩, hm, e⟩ := List.mem_filterMap.mp h
  have o := ok _ hm
  cases m with
  | ans n =>
    cases e
    exact o.1
  | _ => cases e
theorem prod_len {α β : Type} (xs : List α) (ys : List β) : (xs.flatMap fun a => ys.map fun b => (a, b)).length = xs.length * ys.length := by
  induction xs with
  | nil => simp
  | cons x xs ih => rw [List.flatMap_cons, List.length_append, List.length_map, ih, List.length_cons, Nat.add_mul]; omega
theorem mem_pairsL {ws : WS} {bk : List Pg} (hb : ∀ d ∈ akeys ws.falls, d.2.2 ∈ bk) {q : Str × Str} (h : prK q ∈ pairsL ws bk) : ∃ d ∈ akeys ws.falls, q = (d.1, d.2.1) := by
  obtain ⟨r, hr, e⟩ := List.mem_map.mp h
  obtain ⟨d, hd, rfl⟩ := mem_toldL hb hr
  have e' : prK (d.1, d.2.1) = prK q := e
  exact ⟨d, hd, (prK_inj e').symm⟩
structure RF (bk : List Pg) (ws : WS) (day : Int) : Prop where
  marks : ws.marks.map (·.1) = bk.filter fun p => decide (p.day ≤ day)
  mlen : ws.marks.length ≤ 21
  mok : ∀ x ∈ ws.marks, markOk x
  many : (ws.answers.map fun e => (e.1, e.2.length)) = manyOf ws.marks
  alen : ws.answers.length ≤ 21
  ans : ∀ e ∈ ws.answers, e.1.isGo = true ∧ e.2.length ≤ 2000 ∧ ∀ d ∈ e.2, (d.1, d.2.1) = e.1.ends ∧ d.2.2 ∈ madeOf ws.marks
  made : ws.made = ((madeOf ws.marks).length : Int)
  cons : ws.made + ws.copied = (ws.falls.length : Int) + (lenSum ws.answers : Int) + ws.struck + ws.merged
  own : ∀ d ∈ akeys ws.falls, d.1 ≠ d.2.1 ∧ d.2.2 ∈ madeOf ws.marks ∧ d.2.2 ∈ bk ∧ d.1 ∈ standsOf bk day ∧ d.2.1 ∈ standsOf bk day
  flen : ws.falls.length ≤ 1024
  tell : ∀ d ∈ akeys ws.falls, Tm (tellK ws d) 3 160
  name : ∀ d ∈ akeys ws.falls, nmS d.1 ∧ nmS d.2.1
  page : ∀ p ∈ bk, Tm p.key 2 60
  few : ∀ qs : List (Str × Str), qs.Nodup → (∀ q ∈ qs, prK q ∈ pairsL ws bk) → qs.length < 63
theorem CaseOk.bk {bk : List Pg} {t : Int × Int} (c : CaseOk bk t) : Bk bk := by
  obtain ⟨nm, ok, _, b⟩ := c.book
  exact ⟨b.nd, b.rise, fun p hp => fine_unlike (b.good p hp).1, fun p hp => by have := (b.good p hp).2; omega, Nat.le_trans b.len (by decide), Nat.le_trans b.cap (by decide)⟩
theorem CaseOk.wok {bk : List Pg} {t : Int × Int} (c : CaseOk bk t) {day : Int} (h0 : 0 ≤ day) (h1 : day ≤ 90000) : WOk bk t day :=
  ⟨c.bk, ⟨h0, h1⟩, by have := c.t1; omega, by have := c.t2; omega⟩
theorem CaseOk.rf {bk : List Pg} {t : Int × Int} (c : CaseOk bk t) {day : Int} (h0 : 0 ≤ day) (h1 : day ≤ 90000) : RF bk (WS.goTo t bk day) day := by
  have B := c.bk
  obtain ⟨nm, ok, nl, b⟩ := c.book
  obtain ⟨s, hs, m⟩ := goTo_facts B.nodup B.rise B.unl t day
  have hlen := goTo_len B.nodup B.unl t day
  have hal := goTo_al B.nodup B.unl t day
  have hfl := FL.goTo (B := 60) (t := t) (by have := c.t1; omega) (by have := c.t2; omega) (book := bk) (fun p hp => (B.days p hp).1) (last := day) h1
  have hsl := goTo_sorts t bk day
  have hcap := capN_filter bk fun p => decide (p.day ≤ day)
  have hst : s.stands = standsOf bk day := by rw [hs]; rfl
  have hsub : ∀ n ∈ s.stands, n ∈ nm := by
    rw [hs]
    exact stands_sub _ _ (fun p hp => (b.good p (List.mem_filter.mp hp).1).1) fun n h => (nomatch h)
  generalize WS.goTo t bk day = ws at *
  have hml : ws.marks.length ≤ 21 := by
    have e := congrArg List.length m.marks
    rw [List.length_map] at e
    rw [e]
    exact Nat.le_trans (List.length_filter_le _ _) b.len
  have hpage : ∀ d ∈ akeys ws.falls, d.2.2 ∈ bk := fun d hd => by
    have h1 : d.2.2 ∈ ws.marks.map (·.1) := List.mem_map.mpr ⟨_, m.page d hd, rfl⟩
    rw [m.marks] at h1
    exact (List.mem_filter.mp h1).1
  have hname : ∀ d ∈ akeys ws.falls, nmS d.1 ∧ nmS d.2.1 := fun d hd => ⟨ok.ok _ (hsub _ (m.own d hd).1), ok.ok _ (hsub _ (m.own d hd).2.1)⟩
  have hmany : (ws.answers.map fun e => (e.1, e.2.length)) = manyOf ws.marks := m.answers
  refine ⟨m.marks, hml, m.goes, hmany, ?_, fun e he => ⟨?_, ?_, fun d hd => ⟨(m.ans e he d hd).1, mem_madeOf (m.ans e he d hd).2⟩⟩, ?_, m.cons, fun d hd => ⟨(m.own d hd).2.2, mem_madeOf (m.page d hd), hpage d hd, ?_, ?_⟩, ?_, fun d hd => ?_, hname, fun p hp => tm_page ok (b.good p hp), ?_⟩
  · have e := congrArg List.length hmany
    rw [List.length_map] at e
    rw [e]
    exact Nat.le_trans (List.length_filterMap_le _ _) hml
  · have : (e.1, e.2.length) ∈ manyOf ws.marks := by rw [← hmany]; exact List.mem_map.mpr ⟨e, he, rfl⟩
    exact many_go m.goes this
  · exact Nat.le_trans (hal e he) (Nat.le_trans hcap (Nat.le_trans b.cap (by decide)))
  · rw [m.made, madeOf_len]
  · rw [← hst]; exact (m.own d hd).1
  · rw [← hst]; exact (m.own d hd).2.1
  · exact Nat.le_trans hlen (Nat.le_trans hcap b.cap)
  · obtain ⟨n1, n2⟩ := hname d hd
    obtain ⟨f1, f2⟩ := hfl.of d
    have hsrt : nmS (ws.sortOf d.2.2) := by
      rcases hsl.of d.2.2 with e | e
      · rw [e]; exact sort_nm.1
      · rw [e]; exact sort_nm.2
    have hp := tm_page ok (b.good _ (hpage d hd))
    refine (Tm.tup (d := 2) (Ta.cons (.name n1) (.cons (.name n2) (.cons (.name hsrt) (.cons (hp.le (by decide) (Nat.le_refl _)) (.cons ((Tm.tup (Ta.nums (d := 0) f2)).le (by decide) (Nat.le_refl _)) (.nil (b := 0)))))))).le (Nat.le_refl _) ?_
    omega
  · intro qs hnd hq
    have hq2 : ∀ q ∈ qs, ∃ d ∈ akeys ws.falls, q = (d.1, d.2.1) := fun q h => mem_pairsL hpage (hq q h)
    rcases b.few with h4 | h16
    · have := nodup_le (m := nm.flatMap fun a => nm.map fun b => (a, b)) hnd fun q h => by
        obtain ⟨d, hd, rfl⟩ := hq2 q h
        obtain ⟨o1, o2, _⟩ := m.own d hd
        exact List.mem_flatMap.mpr ⟨d.1, hsub _ o1, List.mem_map.mpr ⟨d.2.1, hsub _ o2, rfl⟩⟩
      rw [prod_len] at this
      have h5 : nm.length * nm.length ≤ 4 * 4 := Nat.mul_le_mul h4 h4
      omega
    · have := nodup_le (m := (akeys ws.falls).map fun d => (d.1, d.2.1)) hnd fun q h => by
        obtain ⟨d, hd, rfl⟩ := hq2 q h
        exact List.mem_map.mpr ⟨d, hd, rfl⟩
      rw [List.length_map, keys_len] at this
      omega
section
variable {bk : List Pg} {ws : WS} {day : Int} (r : RF bk ws day)
include r
theorem RF.pages : ∀ d ∈ akeys ws.falls, d.2.2 ∈ bk := fun d hd => (r.own d hd).2.2.1
theorem RF.showP : ShowOk (pgs (bk.filter fun p => decide (p.day ≤ day))) := by
  have h := Ta.all (ks := pgs (bk.filter fun p => decide (p.day ≤ day))) (d := 2) (b := 60) fun k hk => by
    obtain ⟨p, hp, rfl⟩ := mem_pgs hk
    exact r.page p (List.mem_filter.mp hp).1
  have e : (pgs (bk.filter fun p => decide (p.day ≤ day))).length ≤ 21 := by
    rw [← r.marks]
    unfold pgs
    rw [List.length_map, List.length_map]
    exact r.mlen
  exact h.show (by decide) (Nat.le_trans (Nat.mul_le_mul_right _ e) (by decide))
theorem RF.showN : ShowOk ((manyOf ws.marks).map pnK) := by
  have h := Ta.all (ks := (manyOf ws.marks).map pnK) (d := 3) (b := 80) fun k hk => by
    rw [← r.many, List.map_map] at hk
    obtain ⟨e, he, rfl⟩ := List.mem_map.mp hk
    obtain ⟨_, hl, _⟩ := r.ans e he
    have hp : e.1 ∈ bk := by
      have h1 : (e.1, e.2.length) ∈ manyOf ws.marks := by rw [← r.many]; exact List.mem_map.mpr ⟨e, he, rfl⟩
      obtain ⟨⟨p, m⟩, hm, e1⟩ := List.mem_filterMap.mp h1
      have h2 : p ∈ ws.marks.map (·.1) := List.mem_map.mpr ⟨_, hm, rfl⟩
      have h3 : p = e.1 := by
        cases m with
        | ans n => cases e1; rfl
        | _ => cases e1
      rw [r.marks, h3] at h2
      exact (List.mem_filter.mp h2).1
    exact (Tm.tup (d := 2) (.cons (r.page _ hp) (.cons (.num (b := 0) (by show ((e.2.length : Nat) : Int).natAbs < _; omega)) (.nil (b := 0))))).le (Nat.le_refl _) (by decide)
  have e : ((manyOf ws.marks).map pnK).length ≤ 21 := by
    rw [← r.many, List.length_map, List.length_map]
    exact r.alen
  exact h.show (by decide) (Nat.le_trans (Nat.mul_le_mul_right _ e) (by decide))
theorem RF.toldLen : (toldL ws bk).length ≤ 1024 := by rw [toldL_len]; exact r.flen
theorem RF.showT (f : NestedKey → Bool) : ShowOk ((toldL ws bk).filter f) := by
  have h := Ta.all (ks := (toldL ws bk).filter f) (d := 3) (b := 160) fun k hk => by
    obtain ⟨d, hd, rfl⟩ := mem_toldL r.pages (List.mem_filter.mp hk).1
    exact r.tell d hd
  have e : ((toldL ws bk).filter f).length ≤ 1024 := Nat.le_trans (List.length_filter_le _ _) r.toldLen
  exact h.show (by decide) (Nat.le_trans (Nat.mul_le_mul_right _ e) (by decide))
theorem RF.showR {ks : List NestedKey} (hk : ∀ k ∈ ks, k ∈ pairsL ws bk) (hl : ks.length ≤ 100) : ShowOk (ks.map (addC (pairsL ws bk))) := by
  have h := Ta.all (ks := ks.map (addC (pairsL ws bk))) (d := 3) (b := 30) fun k' hk' => by
    obtain ⟨k, hk2, rfl⟩ := List.mem_map.mp hk'
    obtain ⟨x, hx, rfl⟩ := List.mem_map.mp (hk k hk2)
    obtain ⟨d, hd, rfl⟩ := mem_toldL r.pages hx
    obtain ⟨n1, n2⟩ := r.name d hd
    have hc : ((pairsL ws bk).countP fun x => decide (x = prK (d.1, d.2.1))) ≤ 1024 := by
      refine Nat.le_trans List.countP_le_length ?_
      unfold pairsL
      rw [List.length_map]; exact r.toldLen
    exact (Tm.tup (d := 2) (.cons (.name n1) (.cons (.name n2) (.cons (.num (b := 0) (by show (((pairsL ws bk).countP fun x => decide (x = prK (d.1, d.2.1)) : Nat) : Int).natAbs < _; omega)) (.nil (b := 0)))))).le (Nat.le_refl _) (by decide)
  exact h.show (by decide) (Nat.le_trans (Nat.mul_le_mul_right _ (by rw [List.length_map]; exact hl)) (by decide))
end
theorem go_cut {p : Pg} (h : p.isGo = true) : cutK p.items (some 2) (some 4) = [.text p.ends.1, .text p.ends.2] := by
  cases p <;> first | rfl | cases h
theorem prs_of : ∀ {L : List NestedKey}, (∀ k ∈ L, ∃ p, k = prK p) → ∃ ps : List (Str × Str), L = ps.map prK
  | [], _ => ⟨[], rfl⟩
  | k :: L, h => by
    obtain ⟨p, rfl⟩ := h k List.mem_cons_self
    obtain ⟨ps, rfl⟩ := prs_of fun k hk => h k (List.mem_cons_of_mem _ hk)
    exact ⟨p :: ps, rfl⟩
end CB
/-! CBQ9 -/
set_option Elab.async false
set_option autoImplicit false
set_option linter.all false
set_option maxRecDepth 100000
set_option maxHeartbeats 4000000
/-! The law at one day. -/
namespace CB
open PySem PySem.Spec PyProof.Rows L2
open Evl (Ev EvT EvA EvO)
theorem fnG_of {P : Program} {w : World} {K : PySem.W.Frag} {mg : Str → Option Value} {base : Heap} {k : Nat} {f : Addr} {fd : FuncData} {x qual : Str} {params : Arguments} {body : List Stmt} {scope : Scope} {N ps : List Str} {sp : Sp}
    (F : FunD K x qual params body scope [] [] f fd) (S : FnScope N ps scope) (len : ∀ vs H Q E, sp vs H Q E → vs.length = ps.length)
    (run : ∀ (cdv : Value) (A : Around) (outer : List Env) (s : Shared) (H : Hp) (vs : List V) (Q : VK) (E : XK), (A.deeper (envOfC qual scope s.heap.objs.size f cdv)).guards = some [] → Room k (A.deeper (envOfC qual scope s.heap.objs.size f cdv)) → sp vs H Q E →
      ∃ t, PSs (cxOf CX0 P w K mg base N qual scope f cdv A outer s H E).nox body t ∧ t { nx := fun _ H' => Q .non H', rt := Q } (start N vs) H) : FnG P w K mg base (k + 1) f fd ps sp := by
  obtain ⟨oc, od, dV, kV, doc, pm, an, cdv, ct, osl, rfl, lk, hcd, _, _⟩ := F.ex
  exact fn_G lk hcd S len fun A outer s H vs Q E hg hr h => let ⟨t, a, b⟩ := run cdv A outer s H vs Q E hg hr h; ⟨t, a.nox, b⟩
abbrev rIsN : R2 := fun x y H Q => y = .non ∧ Q (.bl (decide (x = .non))) H
section
variable {K : PySem.W.Frag} {σ : L2.St} {H : Hp} {ta tb te : TE} {ks : List NestedKey} {k : NestedKey}
theorem ev_isN {a : Addr} (ha : Ev ta σ H (.ref a)) : Ev (tOp rIsN ta (tC .non)) σ H (.bl false) := fun H1 e Q q => ha H1 e _ fun H2 e2 => ⟨rfl, by
  rw [decide_eq_false (by intro z; cases z)]
  exact q H2 e2⟩
theorem ev_repr (h : EvLK te σ H ks) (s : ShowOk ks) : Ev (tCB (rRepr K) (tCons te tNil)) σ H (.str (PyData.shown (.list (NestedKey.datas ks)))) := fun H1 e Q q =>
  h H1 e _ fun p xs H2 hp e2 h1 h2 => ⟨p, xs, ks, rfl, .of h1, h2, s.dep, s.sh, s.len, q H2 e2⟩
theorem ev_reprAt {p : Addr} {xs : List V} (h : Ev te σ H (.ref p)) (h1 : H p = some (.lst xs)) (h2 : KAll H xs ks) (s : ShowOk ks) : Ev (tCB (rRepr K) (tCons te tNil)) σ H (.str (PyData.shown (.list (NestedKey.datas ks)))) := fun H1 e Q q =>
  h H1 e _ fun H2 e2 => ⟨p, xs, ks, rfl, .of (e2 _ _ (e _ _ h1)), h2.mono (e.tr e2), s.dep, s.sh, s.len, q H2 e2⟩
/-- two texts alike -/
theorem et_same {s t : Str} (ha : Ev ta σ H (.str s)) (hb : Ev tb σ H (.str t)) (e : s = t) : EvT (tTest (tOp rNe ta tb)) σ H false := by
  have h := et_T (eb_neT ha hb)
  rw [decide_eq_true e] at h
  exact h
theorem ev_cnt {p : Addr} {xs : List V} (h : Ev ta σ H (.ref p)) (h1 : H p = some (.lst xs)) (h2 : KAll H xs ks) (hk : EvK tb σ H k) (hd : NestedKey.depthAll ks ≤ 30) : Ev (tBM K "list" (rCntN K) ta (tCons tb tNil)) σ H (.int ((ks.countP fun a => decide (a = k) : Nat) : Int)) := fun H1 e Q q =>
  h H1 e _ fun H2 e2 => ⟨.inl ⟨rfl, xs, .of (e2 _ _ (e _ _ h1))⟩, hk H2 (e.tr e2) _ fun v H3 e3 hv => ⟨p, v, xs, k, ks, rfl, rfl, .of (e3 _ _ (e2 _ _ (e _ _ h1))), h2.mono ((e.tr e2).tr e3), hv, hd, q H3 (e2.tr e3)⟩⟩
theorem ev_sumT {ns : List Int} (h : EvK te σ H (.tup (nums ns))) : Ev (tCB (rSumT K) (tCons te tNil)) σ H (.int ns.sum) := fun H1 e Q q => h H1 e _ fun v H2 e2 hv => by
  obtain ⟨a, xs, rfl, h1, h2⟩ := hv.tupRef
  have : xs = ns.map V.int := by
    have go : ∀ {ns : List Int} {xs : List V}, KAll H2 xs (nums ns) → xs = ns.map V.int := by
      intro ns
      induction ns with
      | nil => intro xs h; cases h; rfl
      | cons i ns ih =>
        intro xs h
        cases h with
        | cons g1 g2 => cases g1; rw [ih g2]; rfl
    exact go h2
  subst this
  exact ⟨a, ns, rfl, .of h1, q H2 e2⟩
end
theorem list22 {α : Type} : ∀ {l : List α}, l.length = 22 → ∃ a0 a1 a2 a3 a4 a5 a6 a7 a8 a9 a10 a11 a12 a13 a14 a15 a16 a17 a18 a19 a20 a21, l = [a0, a1, a2, a3, a4, a5, a6, a7, a8, a9, a10, a11, a12, a13, a14, a15, a16, a17, a18, a19, a20, a21]
  | [a0, a1, a2, a3, a4, a5, a6, a7, a8, a9, a10, a11, a12, a13, a14, a15, a16, a17, a18, a19, a20, a21], _ => ⟨a0, a1, a2, a3, a4, a5, a6, a7, a8, a9, a10, a11, a12, a13, a14, a15, a16, a17, a18, a19, a20, a21, rfl⟩
def fstK : NestedKey → NestedKey
  | .tup (k :: _) => k
  | k => k
def lenK : NestedKey → NestedKey
  | .tup [k, .tup l] => .tup [k, .num (l.length : Nat)]
  | k => k
theorem paidL_len (bk : List Pg) (ds : List Due) : (paidL bk ds).length = ds.length := by
  unfold paidL
  rw [List.length_map, List.length_mergeSort, List.length_map]
theorem lenK_ans (bk : List Pg) (e : Pg × List Due) : lenK (ansK bk e) = pnK (e.1, e.2.length) := by
  show NestedKey.tup [e.1.key, .num ((paidL bk e.2).length : Nat)] = _
  rw [paidL_len]; rfl
theorem mem_paidL {bk : List Pg} {ds : List Due} {k : NestedKey} (h : k ∈ paidL bk ds) : ∃ d ∈ ds, k = dueKey d := by
  obtain ⟨r, hr, rfl⟩ := List.mem_map.mp h
  obtain ⟨d, hd, rfl⟩ := mem_paidRows hr
  exact ⟨d, hd, rfl⟩
theorem lenSum_take {as : List (Pg × List Due)} {i : Nat} {e : Pg × List Due} (h : as[i]? = some e) : lenSum (as.take (i + 1)) = lenSum (as.take i) + e.2.length := by
  unfold lenSum
  rw [List.take_add_one, h, List.map_append, List.sum_append]
  simp
theorem lenSum_le {as : List (Pg × List Due)} {n : Nat} (h : ∀ e ∈ as, e.2.length ≤ n) : lenSum as ≤ as.length * n := by
  unfold lenSum
  induction as with
  | nil => simp
  | cons a as ih =>
    rw [List.map_cons, List.sum_cons, List.length_cons, Nat.add_mul]
    have h1 := h a List.mem_cons_self
    have h2 := ih fun e he => h e (List.mem_cons_of_mem _ he)
    omega
theorem src_const {σ : L2.St} {H : Hp} {J : It} {ks : List NestedKey} (g : Gives J H ks) : Src (fun _ H R => R J H) σ H ks := fun H1 s R r => r J H1 (.rf _) (g.mono s)
theorem el_cat {σ : L2.St} {H : Hp} {ta tb : TE} {xs ys : List V} (ha : Evl.EvL ta σ H xs) (hb : Evl.EvL tb σ H ys) (hl : xs.length + ys.length ≤ 100000) : Evl.EvL (tOp rCat ta tb) σ H (xs ++ ys) := fun H1 e Q q =>
  ha H1 e _ fun a H2 na e2 h2 => hb H2 (Same.tr e e2) _ fun b H3 nb e3 h3 => ⟨a, b, xs, ys, rfl, rfl, e3 _ _ h2, h3, Evl.sz_of hl, fun p hp => q p _ (Same.no (Same.tr e2 e3) hp) (Same.tr e2 (Same.tr e3 (.up hp))) upd_same⟩
theorem eb_nnilL {K : PySem.W.Frag} {σ : L2.St} {H : Hp} {ta : TE} {ks : List NestedKey} (h : EvLK ta σ H ks) : Ev (tOp (rEqNil K true) ta (tLst tNil)) σ H (.bl (!ks.isEmpty)) := fun H1 e Q q =>
  h H1 e _ fun p xs H2 hp e2 h1 h2 => ⟨Nat.zero_le _, fun r hr => ⟨p, r, xs, rfl, rfl, .of ((Same.up hr) _ _ h1), .of upd_same, by
    have ee : xs.isEmpty = ks.isEmpty := by cases h2 <;> rfl
    rw [if_pos rfl, ee]
    exact q _ (Same.tr e2 (.up hr))⟩⟩
theorem cutV_le (xs : List V) (lo hi : Option Int) : (cutV xs lo hi).length ≤ xs.length := by
  unfold cutV
  rw [List.length_take, List.length_drop]; omega
theorem mem_cutK {ks : List NestedKey} {lo hi : Option Int} {k : NestedKey} (h : k ∈ cutK ks lo hi) : k ∈ ks := by
  unfold cutK at h
  exact List.mem_of_mem_drop (List.mem_of_mem_take h)
def tellI (ws : WS) (d : Due) : List NestedKey := [.text d.1, .text d.2.1, .text (ws.sortOf d.2.2), d.2.2.key, .tup (nums (ws.fallsOf d))]
theorem t0 (ws : WS) (d : Due) : atI (tellI ws d) 0 = some (.text d.1) := rfl
theorem t1 (ws : WS) (d : Due) : atI (tellI ws d) 1 = some (.text d.2.1) := rfl
theorem t3 (ws : WS) (d : Due) : atI (tellI ws d) 3 = some d.2.2.key := rfl
theorem nodup_prK {qs : List (Str × Str)} (h : qs.Nodup) : (qs.map prK).Nodup := List.Pairwise.map _ (fun a b hab e => hab (prK_inj e)) h
theorem el_bad {K : PySem.W.Frag} {bk : List Pg} {ws : WS} {day : Int} (rf : RF bk ws day) {σ : L2.St} {H : Hp} {p5 ma : Addr} {x5 xa : List V} (sh : σ.length = 22) (z5 : σ[5]? = some (some (.ref p5))) (z9 : σ[9]? = some (some (.ref ma))) (e5 : H p5 = some (.lst x5)) (k5 : KAll H x5 (toldL ws bk)) (em : H ma = some (.lst xa)) (km : KAll H xa (pgs (madeOf ws.marks))) :
    EvLK (tLc (iList K (tVar 5)) (gName 21) (tOr (tTest (tOp rEq (tOp (rIxT K) (tVar 21) (tC (.int 0))) (tOp (rIxT K) (tVar 21) (tC (.int 1))))) (tTest (tOp (rInN K true) (tOp (rIxT K) (tVar 21) (tC (.int 3))) (tVar 9)))) (tVar 21) [21]) σ H [] := by
  have tl := rf.toldLen
  have hdep : NestedKey.depthAll (pgs (madeOf ws.marks)) ≤ 30 := depthAll_le fun k hk => by
    obtain ⟨r, _, rfl⟩ := mem_pgs hk
    exact Nat.le_trans r.key_depth (by decide)
  obtain ⟨a0, a1, a2, a3, a4, a5, a6, a7, a8, a9, a10, a11, a12, a13, a14, a15, a16, a17, a18, a19, a20, a21, rfl⟩ := list22 sh
  cases z5; cases z9
  have e : ([] : List NestedKey) = ((toldL ws bk).filter fun _ => false).map fun k => k := by
    rw [List.filter_eq_nil_iff.mpr fun _ _ => Bool.false_ne_true]; rfl
  rw [e]
  refine el_lc (src_at (Evl.ev_var rfl) (.of e5) k5) (by omega) fun k hk H12 y s12 hy => ?_
  obtain ⟨d, hd, rfl⟩ := mem_toldL rf.pages hk
  obtain ⟨o1, o2, _⟩ := rf.own d hd
  have o3 : d.2.2.key ∈ pgs (madeOf ws.marks) := List.mem_map.mpr ⟨_, o2, rfl⟩
  refine turn_name hy rfl ?_ fun z => by cases z
  exact Evl.et_or (a := false) (b := false) (et_T (Evl.ev_is (eb_eqT (EvK.text (ek_ix (ks := tellI ws d) (ek_var rfl hy) Evl.ev_c (t0 ws d))) (EvK.text (ek_ix (ks := tellI ws d) (ek_var rfl hy) Evl.ev_c (t1 ws d)))) (by rw [decide_eq_false o1])))
    fun _ => et_T (Evl.ev_is (eb_in (neg := true) (ek_ix (ks := tellI ws d) (ek_var rfl hy) Evl.ev_c (t3 ws d)) (Evl.ev_var rfl) (.inl (.of (s12 _ _ em))) (km.mono s12) hdep) (by rw [if_pos rfl, decide_eq_true o3]; rfl))
theorem el_pairs {K : PySem.W.Frag} {bk : List Pg} {ws : WS} {day : Int} (rf : RF bk ws day) {σ : L2.St} {H : Hp} {p5 : Addr} {x5 : List V} (sh : σ.length = 22) (z5 : σ[5]? = some (some (.ref p5))) (e5 : H p5 = some (.lst x5)) (k5 : KAll H x5 (toldL ws bk)) :
    EvLK (tLc (iList K (tVar 5)) (gName 21) tYes (tSl (rSlA K) (tVar 21) tNoPart (tPart (tC (.int 2)))) [21]) σ H (pairsL ws bk) := by
  have tl := rf.toldLen
  obtain ⟨a0, a1, a2, a3, a4, a5, a6, a7, a8, a9, a10, a11, a12, a13, a14, a15, a16, a17, a18, a19, a20, a21, rfl⟩ := list22 sh
  cases z5
  have e : pairsL ws bk = ((toldL ws bk).filter fun _ => true).map pairK := by rw [filt_true]; rfl
  rw [e]
  refine el_lc (src_at (Evl.ev_var rfl) (.of e5) k5) (by omega) fun k hk H13 y s13 hy => ?_
  obtain ⟨d, hd, rfl⟩ := mem_toldL rf.pages hk
  exact turn_name hy rfl et_yes fun _ => ek_cutT (ws := ws) (d := d) (ek_var rfl hy)
theorem el_same {K : PySem.W.Frag} {bk : List Pg} {ws : WS} {day : Int} (rf : RF bk ws day) {σ : L2.St} {H : Hp} {p5 : Addr} {x5 : List V} {a b : Str} (sh : σ.length = 22) (z5 : σ[5]? = some (some (.ref p5))) (z17 : σ[17]? = some (some (.str a))) (z18 : σ[18]? = some (some (.str b))) (e5 : H p5 = some (.lst x5)) (k5 : KAll H x5 (toldL ws bk)) :
    EvLK (tLc (iList K (tVar 5)) (gName 21) (tTest (tOp rEqN (tSl (rSlA K) (tVar 21) tNoPart (tPart (tC (.int 2)))) (tTup (tCons (tVar 17) (tCons (tVar 18) tNil))))) (tVar 21) [21]) σ H ((toldL ws bk).filter (pairB a b)) := by
  have tl := rf.toldLen
  obtain ⟨a0, a1, a2, a3, a4, a5, a6, a7, a8, a9, a10, a11, a12, a13, a14, a15, a16, a17, a18, a19, a20, a21, rfl⟩ := list22 sh
  cases z5; cases z17; cases z18
  rw [← List.map_id (List.filter _ _)]
  refine el_lc (v := fun k => k) (src_at (Evl.ev_var rfl) (.of e5) k5) (by omega) fun k hk H18 y s18 hy => ?_
  obtain ⟨e, he, rfl⟩ := mem_toldL rf.pages hk
  refine turn_name hy rfl ?_ fun _ => ek_var rfl hy
  exact et_T (eb_eqN (ek_cutT (ws := ws) (d := e) (ek_var rfl hy)) (ek_tup (eks_cons (ek_text (Evl.ev_var rfl)) (eks_cons (ek_text (Evl.ev_var rfl)) eks_nil))) (Nat.le_of_ble_eq_true rfl))
theorem el_rows {K : PySem.W.Frag} {bk : List Pg} {ws : WS} {day : Int} (rf : RF bk ws day) {σ : L2.St} {H : Hp} {pq p15 : Addr} {x15 : List V} {L0 : List NestedKey} (sh : σ.length = 22) (z15 : σ[15]? = some (some (.ref p15))) (e15 : H p15 = some (.lst x15)) (k15 : KAll H x15 (pairsL ws bk))
    (gv : Gives (Itl K pq) H L0) (qmem : ∀ k ∈ L0, ∃ q, k = prK q ∧ k ∈ pairsL ws bk) (hl : L0.length < 63) :
    EvLK (tLc (fun _ H R => R (Itl K pq) H) (gName 20) tYes (tOp (rCatA K) (tVar 20) (tTup (tCons (tBM K "list" (rCntN K) (tVar 15) (tCons (tVar 20) tNil)) tNil))) [20]) σ H (L0.map (addC (pairsL ws bk))) := by
  obtain ⟨a0, a1, a2, a3, a4, a5, a6, a7, a8, a9, a10, a11, a12, a13, a14, a15, a16, a17, a18, a19, a20, a21, rfl⟩ := list22 sh
  cases z15
  have hdepP : NestedKey.depthAll (pairsL ws bk) ≤ 30 := depthAll_le fun k hk => by
    obtain ⟨q, rfl⟩ := pairsL_prK rf.pages hk
    exact Nat.le_trans (prK_depth q) (by decide)
  have e : L0 = L0.filter fun _ => true := (filt_true _).symm
  rw [e]
  refine el_lc (src_const gv) (by omega) fun k hk H15 y s15 hy => ?_
  obtain ⟨⟨a, b⟩, rfl, _⟩ := qmem k hk
  exact turn_name hy rfl et_yes fun _ => ek_catA (ks := [.text a, .text b]) (ek_var rfl hy) (ek_tup (eks_cons (ek_num (ev_cnt (Evl.ev_var rfl) (s15 _ _ e15) (k15.mono s15) (ek_var rfl hy) hdepP)) eks_nil)) (Nat.le_of_ble_eq_true rfl)
theorem rd_rows {K : PySem.W.Frag} {σ : L2.St} {H : Hp} {i : Nat} {l : Addr} {xs : List V} {ps : List (Str × Str)} {g : TG} {tt : TT} {te : TE} {vs : List Nat} {Q : VK} (z : σ[i]? = some (some (.ref l))) (hl : H l = some (.lst xs)) (hk : KAll H xs (ps.map prK)) (few : ∀ qs : List (Str × Str), qs.Nodup → (∀ q ∈ qs, q ∈ ps) → qs.length < 63)
    (q : ∀ (p : Addr) (xs' : List V) (qs : List (Str × Str)), H p = none → qs.Nodup → (∀ q, q ∈ qs ↔ q ∈ ps) → KAll H xs' ((qs.map prK).mergeSort leN) → tLc (fun _ H R => R (Itl K p) H) g tt te vs σ (upd H p (.lst xs')) Q) : tLc (iList K (tSortSet K (tCons (tVar i) tNil))) g tt te vs σ H Q :=
  ⟨.ref l, z, l, xs, ps, rfl, .of hl, hk, few, fun p xs' qs hp nd mem hkq => ⟨p, rfl, ⟨xs', .of upd_same⟩, q p xs' qs hp nd mem hkq⟩⟩
theorem seq_asg {te : TE} {g : TG} {u : TS} {D : Ends} {σ : L2.St} {H : Hp} (h : te σ H fun x H1 => g x σ H1 fun σ2 H2 => u D σ2 H2) : tSeq (tAsg te g) u D σ H := h
abbrev NRight : List Str := ["_law_book_here", "_law_terms", "_law_day", "_law_told", "_law_paid", "_law_stand", "_law_counted_here", "_law_page_here", "_law_pages", "_law_made", "_law_many", "_law_some", "_law_triples", "_law_one", "_law_six", "_law_pairs", "_law_rows", "_law_a", "_law_b", "_law_count", "_law_pair", "_law_due"]
section
variable {P : Program} {w : World} {K : PySem.W.Frag} {mg : Str → Option Value} {base : Heap} (T : Tp K mg)
include T
def spRight : Sp := fun vs H Q _ => ∃ (bk : List Pg) (t : Int × Int) (day : Int), KAll H vs (argK bk t day) ∧ CaseOk bk t ∧ 0 ≤ day ∧ day ≤ 90000 ∧ ∀ H', Same H H' → Q (.bl true) H'
theorem fn_right {fd : FuncData} (F : FunD K "_law_right" "_law_right" (defArgs s_l_right) (defBody s_l_right) (defScope s_l_right) [] [] (He.fAd K ("_law_right", none)) fd) : FnG P w K mg base 10 (He.fAd K ("_law_right", none)) fd ["_law_book_here", "_law_terms", "_law_day"] spRight := by
  have G1 := ok_marks (P := P) (w := w) (base := base) T
  have G2 := ok_answered (P := P) (w := w) (base := base) T
  have G3 := ok_dues (P := P) (w := w) (base := base) T
  have G4 := ok_l_counted (P := P) (w := w) (base := base) T
  have G5 := ok_sums (P := P) (w := w) (base := base) T
  have G6 := ok_matters (P := P) (w := w) (base := base) T
  have G7 := ok_owes (P := P) (w := w) (base := base) T
  refine fnG_of F c_l_right (fun vs H Q E ⟨bk, t, day, e, _⟩ => by rw [e.length]; rfl) (fun cdv A outer s0 H vs Q E hg hr h => ?_)
  obtain ⟨bk, t, day, hs, cok, d0, d1, q⟩ := h
  have hu := hr.units
  have hu80 : (A.deeper (envOfC "_law_right" (defScope s_l_right) s0.heap.objs.size (He.fAd K ("_law_right", none)) cdv)).units + 80 < cLine := by have := hr.un; omega
  have hr8 := hr.mono (by decide : 8 ≤ 9)
  have hr1 := hr.mono (by decide : 1 ≤ 9)
  cases hs with
  | @cons bv _ _ _ h1 hs =>
  cases hs with
  | @cons tv _ _ _ h2 hs =>
  cases hs with
  | cons h3 hs =>
  cases hs; cases h3
  refine ⟨_, pss_cons (ps_par3 (i := 3) (j := 4) (l := 5) rfl c_l_right.nd rfl rfl rfl (by decide) (by decide) (by decide) rfl rfl rfl (pa_cons (pe_fn G1 hr8 (by rfl) T.g_marks (pa_cons (pv 0) (pa_cons (pv 1) (pa_cons (pv 2) pa_nil)))) (pa_cons (pe_fn G2 hr8 (by rfl) T.g_answered (pa_cons (pv 0) (pa_cons (pv 1) (pa_cons (pv 2) pa_nil)))) (pa_cons (pe_fn G3 hr8 (by rfl) T.g_dues (pa_cons (pv 0) (pa_cons (pv 1) (pa_cons (pv 2) pa_nil)))) pa_nil))) (by rfl))
    (pss_cons (ps_set (i := 6) c_l_right.nd rfl (.inl rfl) (pe_fn G4 hr1 (by rfl) T.g_l_counted (pa_cons (pv 3) pa_nil)))
    (pss_cons (ps_setLc (i := 8) (own := [("_law_page_here", 7)]) (g := gName 7) (te := tVar 7) (tt := tTest (tOp (rI0 fun i j => .bl (decide (i ≤ j))) (tOp (rIxT K) (tVar 7) (tC (.int 1))) (tVar 2)))
        rfl c_l_right.nd rfl rfl (sw_true rfl rfl rfl (by decide +kernel)) (pi_tup (pv 0)) (blkOk_by (N := NRight) (sc := defScope s_l_right) (by decide +kernel)) (fun _ _ _ _ _ => pg_name (i := 7) c_l_right.nd rfl (.inl rfl))
        (fun _ _ _ _ _ => pts_one (pt_cmpR op_le (pe_ix ix_tup (pv 7) pe_int (fun _ _ => rfl)) (pv 2) (nomark _))) (fun _ _ _ _ _ => pv 7))
    (pss_cons (ps_if (PW.pt (pw_or (pt_cmpR op_isN (pv 6) pe_non (nomark _)) (pw_or1 (pt_cmpR op_ne
          (pe_callB (cr_repr hg hu) (by rfl) T.b_repr PyProof.Rows.boot_repr (pa_cons (pe_lc (own := [("_law_pair", 20)]) (g := gName 20) (te := tOp (rIxT K) (tVar 20) (tC (.int 0))) rfl c_l_right.nd (pi_list (pv 3)) (blkOk_by (N := NRight) (sc := defScope s_l_right) (by decide +kernel)) (fun _ _ _ _ _ => pg_name (i := 20) c_l_right.nd rfl (.inl rfl))
            (fun _ _ _ _ _ => pts_nil) (fun _ _ _ _ _ => pe_ix ix_tup (pv 20) pe_int (fun _ _ => rfl))) pa_nil))
          (pe_callB (cr_repr hg hu) (by rfl) T.b_repr PyProof.Rows.boot_repr (pa_cons (pv 8) pa_nil)) (nomark _))))) (pss_one (ps_ret pe_bl)) pss_nil)
    (pss_cons (ps_asg (pv 6) (pg_tup rfl (pgs_cons (pg_name (i := 9) c_l_right.nd rfl (.inr rfl)) (pgs_cons (pg_name (i := 10) c_l_right.nd rfl (.inl rfl)) pgs_nil))))
    (pss_cons (ps_if (pt_cmpR op_ne
          (pe_callB (cr_repr hg hu) (by rfl) T.b_repr PyProof.Rows.boot_repr (pa_cons (pe_lc (own := [("_law_page_here", 7), ("_law_some", 11)]) (g := gTup K 2 (gCons (gName 7) (gCons (gName 11) gNil))) (te := tTup (tCons (tVar 7) (tCons (tCB (rLen0 K) (tCons (tVar 11) tNil)) tNil))) rfl c_l_right.nd (pi_list (pv 4)) (blkOk_by (N := NRight) (sc := defScope s_l_right) (by decide +kernel))
            (fun _ _ _ _ _ => pg_tup rfl (pgs_cons (pg_name (i := 7) c_l_right.nd rfl (.inl rfl)) (pgs_cons (pg_name (i := 11) c_l_right.nd rfl (.inl rfl)) pgs_nil)))
            (fun _ _ _ _ _ => pts_nil) (fun _ _ _ _ _ => pe_tup (pa_cons (pv 7) (pa_cons (pe_callB call_len_seq (by rfl) T.b_len PySem.boot_len (pa_cons (pv 11) pa_nil)) pa_nil)))) pa_nil))
          (pe_callB (cr_repr hg hu) (by rfl) T.b_repr PyProof.Rows.boot_repr (pa_cons (pv 10) pa_nil)) (nomark _)) (pss_one (ps_ret pe_bl)) pss_nil)
    (pss_cons (ps_set (i := 12) c_l_right.nd rfl (.inl rfl) (pe_lst pa_nil))
    (pss_cons (ps_for .never rfl (pi_list (pv 4)) (pg_tup rfl (pgs_cons (pg_name (i := 7) c_l_right.nd rfl (.inl rfl)) (pgs_cons (pg_name (i := 11) c_l_right.nd rfl (.inl rfl)) pgs_nil)))
      (pss_cons (ps_expr (pe_bm PySem.F.plainAttrs_list PySem.F.slot_list_extend PySem.F.type_list_extend mt_extendT (pv 12) (pa_cons (pv 11) pa_nil)))
      (pss_one (ps_for .never rfl (pi_tup (pv 11)) (pg_name (i := 13) c_l_right.nd rfl (.inl rfl))
        (pss_one (ps_if (PW.pt (pw_or (pt_cmpR (op_neN hu) (pe_slice sl_tupA (pv 13) po_none (po_some pe_int)) (pe_slice sl_tupA (pv 7) (po_some pe_int) (po_some pe_int)) (nomark _)) (pw_or1 (pt_cmpR (op_notInN hu) (pe_ix ix_tup (pv 13) pe_int (fun _ _ => rfl)) (pv 9) (by with_unfolding_all rfl)))))
          (pss_one (ps_ret pe_bl)) pss_nil))))))
    (pss_cons (ps_set (i := 14) c_l_right.nd rfl (.inl rfl) (pe_fn G5 hr8 (by rfl) T.g_sums (pa_cons (pv 0) (pa_cons (pv 1) (pa_cons (pv 2) pa_nil)))))
    (pss_cons (ps_if (PW.pt (pw_or (pt_cmpR op_ne (pe_callB call_len_seq (by rfl) T.b_len PySem.boot_len (pa_cons (pv 12) pa_nil)) (pe_ix ix_tup (pv 14) pe_int (fun _ _ => rfl)) (nomark _))
        (pw_or (pt_cmpR op_ne (pe_callB call_len_seq (by rfl) T.b_len PySem.boot_len (pa_cons (pv 9) pa_nil)) (pe_ix ix_tup (pv 14) pe_int (fun _ _ => rfl)) (nomark _))
        (pw_or (pt_cmpR op_ne (pe_op op_add (pe_ix ix_tup (pv 14) pe_int (fun _ _ => rfl)) (pe_ix ix_tup (pv 14) pe_int (fun _ _ => rfl))) (pe_callB (cr_sumT rfl) (by rfl) T.b_sum PyProof.Rows.boot_sum (pa_cons (pe_slice sl_tupA (pv 14) (po_some pe_int) po_none) pa_nil)) (nomark _))
        (pw_or1 (pt_cmpR op_ne (pe_callB call_len_seq (by rfl) T.b_len PySem.boot_len (pa_cons (pv 5) pa_nil)) (pe_ix ix_tup (pv 14) pe_int (fun _ _ => rfl)) (nomark _))))))) (pss_one (ps_ret pe_bl)) pss_nil)
    (pss_cons (ps_if (pt_cmpR (op_neNil hu) (pe_lc (own := [("_law_due", 21)]) (g := gName 21) (te := tVar 21) (tt := tOr (tTest (tOp rEq (tOp (rIxT K) (tVar 21) (tC (.int 0))) (tOp (rIxT K) (tVar 21) (tC (.int 1))))) (tTest (tOp (rInN K true) (tOp (rIxT K) (tVar 21) (tC (.int 3))) (tVar 9)))) rfl c_l_right.nd (pi_list (pv 5)) (blkOk_by (N := NRight) (sc := defScope s_l_right) (by decide +kernel)) (fun _ _ _ _ _ => pg_name (i := 21) c_l_right.nd rfl (.inl rfl))
            (fun _ _ _ _ _ => pts_one (PW.pt (pw_or (pt_cmpR op_eq (pe_ix ix_tup (pv 21) pe_int (fun _ _ => rfl)) (pe_ix ix_tup (pv 21) pe_int (fun _ _ => rfl)) (nomark _)) (pw_or1 (pt_cmpR (op_notInN hu) (pe_ix ix_tup (pv 21) pe_int (fun _ _ => rfl)) (pv 9) (by with_unfolding_all rfl)))))) (fun _ _ _ _ _ => pv 21))
          (pe_lst pa_nil) (nomark _)) (pss_one (ps_ret pe_bl)) pss_nil)
    (pss_cons (ps_set (i := 15) c_l_right.nd rfl (.inr rfl) (pe_lc (own := [("_law_due", 21)]) (g := gName 21) (te := tSl (rSlA K) (tVar 21) tNoPart (tPart (tC (.int 2)))) rfl c_l_right.nd (pi_list (pv 5)) (blkOk_by (N := NRight) (sc := defScope s_l_right) (by decide +kernel)) (fun _ _ _ _ _ => pg_name (i := 21) c_l_right.nd rfl (.inl rfl))
            (fun _ _ _ _ _ => pts_nil) (fun _ _ _ _ _ => pe_slice sl_tupA (pv 21) po_none (po_some pe_int))))
    (pss_cons (ps_setLc (i := 16) (own := [("_law_pair", 20)]) (g := gName 20) (te := tOp (rCatA K) (tVar 20) (tTup (tCons (tBM K "list" (rCntN K) (tVar 15) (tCons (tVar 20) tNil)) tNil)))
        rfl c_l_right.nd rfl rfl (sw_true rfl rfl rfl (by decide +kernel)) (pi_list (pe_sortSet rfl hu80 (by rfl) T.b_sorted (by rfl) T.b_set (pa_cons (pv 15) pa_nil))) (blkOk_by (N := NRight) (sc := defScope s_l_right) (by decide +kernel)) (fun _ _ _ _ _ => pg_name (i := 20) c_l_right.nd rfl (.inl rfl))
        (fun _ _ _ _ _ => pts_nil) (fun _ _ _ _ _ => pe_op op_catA (pv 20) (pe_tup (pa_cons (pe_bm PySem.F.plainAttrs_list PySem.F.slot_list_count PySem.F.type_list_count (mt_countN hu) (pv 15) (pa_cons (pv 20) pa_nil)) pa_nil))))
    (pss_cons (ps_if (pt_cmpR op_ne (pe_callB (cr_repr hg hu) (by rfl) T.b_repr PyProof.Rows.boot_repr (pa_cons (pe_fn G6 hr (by rfl) T.g_matters (pa_cons (pv 0) (pa_cons (pv 1) (pa_cons (pv 2) pa_nil)))) pa_nil)) (pe_callB (cr_repr hg hu) (by rfl) T.b_repr PyProof.Rows.boot_repr (pa_cons (pv 16) pa_nil)) (nomark _)) (pss_one (ps_ret pe_bl)) pss_nil)
    (pss_cons (ps_for .never rfl (pi_list (pe_op op_cat (pe_slice sl_list (pv 16) po_none (po_some pe_int)) (pe_slice sl_list (pv 16) (po_some (pe_un un_neg pe_int)) po_none))) (pg_tup rfl (pgs_cons (pg_name (i := 17) c_l_right.nd rfl (.inr rfl)) (pgs_cons (pg_name (i := 18) c_l_right.nd rfl (.inr rfl)) (pgs_cons (pg_name (i := 19) c_l_right.nd rfl (.inl rfl)) pgs_nil))))
      (pss_one (ps_if (pt_cmpR op_ne (pe_callB (cr_repr hg hu) (by rfl) T.b_repr PyProof.Rows.boot_repr (pa_cons (pe_fn G7 hr (by rfl) T.g_owes (pa_cons (pv 0) (pa_cons (pv 1) (pa_cons (pv 2) (pa_cons (pv 17) (pa_cons (pv 18) pa_nil)))))) pa_nil))
          (pe_callB (cr_repr hg hu) (by rfl) T.b_repr PyProof.Rows.boot_repr (pa_cons (pe_lc (own := [("_law_due", 21)]) (g := gName 21) (te := tVar 21) (tt := tTest (tOp rEqN (tSl (rSlA K) (tVar 21) tNoPart (tPart (tC (.int 2)))) (tTup (tCons (tVar 17) (tCons (tVar 18) tNil))))) rfl c_l_right.nd (pi_list (pv 5)) (blkOk_by (N := NRight) (sc := defScope s_l_right) (by decide +kernel)) (fun _ _ _ _ _ => pg_name (i := 21) c_l_right.nd rfl (.inl rfl))
            (fun _ _ _ _ _ => pts_one (pt_cmpR (op_eqN hu) (pe_slice sl_tupA (pv 21) po_none (po_some pe_int)) (pe_tup (pa_cons (pv 17) (pa_cons (pv 18) pa_nil))) (nomark _))) (fun _ _ _ _ _ => pv 21)) pa_nil)) (nomark _)) (pss_one (ps_ret pe_bl)) pss_nil)))
    (pss_one (ps_ret pe_bl)))))))))))))))), ?_⟩
  have wok := cok.wok d0 d1
  have rf := cok.rf d0 d1
  have ev3 : ∀ {σ : L2.St} {H1 : Hp}, σ[0]? = some (some bv) → σ[1]? = some (some tv) → σ[2]? = some (some (.int day)) → Same H H1 → EvKs (tCons (tVar 0) (tCons (tVar 1) (tCons (tVar 2) tNil))) σ H1 (argK bk t day) := fun z0 z1 z2 s =>
    eks_cons (ek_var z0 (h1.mono s)) (eks_cons (ek_var z1 (h2.mono s)) (eks_cons (ek_num (Evl.ev_var z2)) eks_nil))
  have eM : ∀ {σ : L2.St} {H1 : Hp}, σ[0]? = some (some bv) → σ[1]? = some (some tv) → σ[2]? = some (some (.int day)) → Same H H1 → EvLK (tCall (spL fMarks) [] E0 (tCons (tVar 0) (tCons (tVar 1) (tCons (tVar 2) tNil)))) σ H1 ((WS.goTo t bk day).marks.map markK) := fun z0 z1 z2 s => el_call (ev3 z0 z1 z2 s) ⟨bk, t, day, rfl, wok, rfl⟩
  have eA : ∀ {σ : L2.St} {H1 : Hp}, σ[0]? = some (some bv) → σ[1]? = some (some tv) → σ[2]? = some (some (.int day)) → Same H H1 → EvLK (tCall (spL fAns) [] E0 (tCons (tVar 0) (tCons (tVar 1) (tCons (tVar 2) tNil)))) σ H1 ((WS.goTo t bk day).answers.map (ansK bk)) := fun z0 z1 z2 s => el_call (ev3 z0 z1 z2 s) ⟨bk, t, day, rfl, wok, rfl⟩
  have eD : ∀ {σ : L2.St} {H1 : Hp}, σ[0]? = some (some bv) → σ[1]? = some (some tv) → σ[2]? = some (some (.int day)) → Same H H1 → EvLK (tCall (spL fDues) [] E0 (tCons (tVar 0) (tCons (tVar 1) (tCons (tVar 2) tNil)))) σ H1 (toldL (WS.goTo t bk day) bk) := fun z0 z1 z2 s => el_call (ev3 z0 z1 z2 s) ⟨bk, t, day, rfl, wok, rfl⟩
  have eS : ∀ {σ : L2.St} {H1 : Hp}, σ[0]? = some (some bv) → σ[1]? = some (some tv) → σ[2]? = some (some (.int day)) → Same H H1 → EvK (tCall (spF fSums) [] E0 (tCons (tVar 0) (tCons (tVar 1) (tCons (tVar 2) tNil)))) σ H1 (.tup (sixOf (WS.goTo t bk day))) := fun z0 z1 z2 s => ek_call (ev3 z0 z1 z2 s) ⟨bk, t, day, rfl, wok, rfl⟩
  have eO : ∀ {σ : L2.St} {H1 : Hp} {a b : Str}, σ[0]? = some (some bv) → σ[1]? = some (some tv) → σ[2]? = some (some (.int day)) → σ[17]? = some (some (.str a)) → σ[18]? = some (some (.str b)) → Same H H1 → a ∈ standsOf bk day → b ∈ standsOf bk day → EvLK (tCall (spL fOwes) [] E0 (tCons (tVar 0) (tCons (tVar 1) (tCons (tVar 2) (tCons (tVar 17) (tCons (tVar 18) tNil)))))) σ H1 ((toldL (WS.goTo t bk day) bk).filter (pairB a b)) := fun {σ H1 a b} z0 z1 z2 z17 z18 s ha hb =>
    el_call (eks_cons (ek_var z0 (h1.mono s)) (eks_cons (ek_var z1 (h2.mono s)) (eks_cons (ek_num (Evl.ev_var z2)) (eks_cons (ek_text (Evl.ev_var z17)) (eks_cons (ek_text (Evl.ev_var z18)) eks_nil))))) ⟨bk, t, day, a, b, rfl, wok, ha, hb, rfl⟩
  have eT : ∀ {σ : L2.St} {H1 : Hp} {Q : VK}, σ[0]? = some (some bv) → σ[1]? = some (some tv) → σ[2]? = some (some (.int day)) → Same H H1 → (∀ p xs H' (us : List NestedKey), H1 p = none → Same H1 H' → H' p = some (.lst xs) → us.Nodup → (∀ k, k ∈ us ↔ k ∈ pairsL (WS.goTo t bk day) bk) → KAll H' xs ((us.mergeSort leN).map (addC (pairsL (WS.goTo t bk day) bk))) → Q (.ref p) H') → tCall spMatters [] E0 (tCons (tVar 0) (tCons (tVar 1) (tCons (tVar 2) tNil))) σ H1 Q := fun {σ H1 Q} z0 z1 z2 s qq =>
    (ev3 z0 z1 z2 s) H1 (.rf _) _ fun vs H2 s2 hv => by
      show spMatters (vs ++ []) H2 _ _
      rw [List.append_nil]
      exact ⟨bk, t, day, hv, wok, fun p xs H' us hp s' e nd mem hk => qq p xs H' us (s2.no hp) (s2.tr s') e nd mem hk⟩
  have bkl := wok.bk.len
  have eP : ∀ {σ : L2.St} {H1 : Hp}, σ.length = 22 → σ[0]? = some (some bv) → σ[2]? = some (some (.int day)) → Same H H1 → EvLK (tLc (iTup K (tVar 0)) (gName 7) (tTest (tOp (rI0 fun i j => .bl (decide (i ≤ j))) (tOp (rIxT K) (tVar 7) (tC (.int 1))) (tVar 2))) (tVar 7) [7]) σ H1 (pgs (bk.filter fun p => decide (p.day ≤ day))) := fun {σ H1} sh z0 z2 s => by
    rw [← pgs_filter, ← List.map_id ((pgs bk).filter _)]
    refine el_lc (v := fun k => k) (src_tup (ek_var z0 (h1.mono s))) (by unfold pgs; rw [List.length_map]; omega) fun k hk H2 y s2 hy => ?_
    obtain ⟨p, hp, rfl⟩ := mem_pgs hk
    obtain ⟨a0, a1, a2, a3, a4, a5, a6, a7, a8, a9, a10, a11, a12, a13, a14, a15, a16, a17, a18, a19, a20, a21, rfl⟩ := list22 sh
    cases z2
    refine turn_name hy rfl ?_ fun _ => ek_var rfl hy
    rw [ofKey_key]
    exact et_T (eb_leI (EvK.num (ek_ix (ek_var rfl hy) Evl.ev_c p.items1)) (Evl.ev_var rfl))
  generalize hws : WS.goTo t bk day = ws at *
  refine (eM rfl rfl rfl (.rf _)) _ (.rf _) _ fun p3 x3 H1 hp3 s1 e3 k3 => ?_
  refine (eA rfl rfl rfl s1) _ (.rf _) _ fun p4 x4 H2 hp4 s2 e4 k4 => ?_
  refine (eD rfl rfl rfl (s1.tr s2)) _ (.rf _) _ fun p5 x5 H3 hp5 s3 e5 k5 => ?_
  refine ⟨_, _, _, rfl, ?_⟩
  have sc3 : Same H H3 := (s1.tr s2).tr s3
  have e3' := s3 _ _ (s2 _ _ e3)
  have k3' := k3.mono (s2.tr s3)
  have e4' := s3 _ _ e4
  have k4' := k4.mono s3
  dsimp only
  refine ⟨.ref p3, rfl, p3, x3, ws.marks, rfl, e3', k3', Nat.le_trans rf.mlen (by decide), rf.mok, fun tp ma mb xa xb H4 htp s4 etp ea ka eb kb => ?_⟩
  have sc4 := sc3.tr s4
  dsimp only
  refine s_asgLK (eP rfl rfl rfl sc4) fun p8 x8 H5 hp8 s5 e8 k8 => ?_
  have sc5 := sc4.tr s5
  dsimp only
  have e35 := (s4.tr s5) _ _ e3'
  have k35 := k3'.mono (s4.tr s5)
  have mlen := rf.mlen
  refine Evl.s_if (b := false || false) (Evl.et_or (et_T (ev_isN (Evl.ev_var rfl))) fun _ => et_same (ev_repr (K := K) (ks := pgs (bk.filter fun p => decide (p.day ≤ day))) (by
      have e : pgs (bk.filter fun p => decide (p.day ≤ day)) = ((ws.marks.map markK).filter fun _ => true).map fstK := by
        rw [filt_true, ← rf.marks]
        unfold pgs
        rw [List.map_map, List.map_map]; rfl
      rw [e]
      refine el_lc (src_at (Evl.ev_var rfl) (.of e35) k35) (by rw [List.length_map]; omega) fun k hk H6 y s6 hy => ?_
      obtain ⟨x, hx, rfl⟩ := List.mem_map.mp hk
      exact turn_name hy rfl et_yes fun _ => ek_ix (ek_var rfl hy) Evl.ev_c rfl) rf.showP) (ev_reprAt (Evl.ev_var rfl) e8 k8 rf.showP) rfl) (fun hb H6 s6 => by cases hb) (fun _ H6 s6 => ?_)
  refine s_nil ?_
  have sc6 := sc5.tr s6
  have s46 := s5.tr s6
  refine ⟨.ref tp, rfl, tp, _, rfl, .of (s46 _ _ etp), rfl, _, _, rfl, _, _, rfl, rfl, ?_⟩
  have ea6 := s46 _ _ ea
  have ka6 := ka.mono s46
  have eb6 := s46 _ _ eb
  have kb6 := kb.mono s46
  have s36 := s4.tr s46
  have e46 := s36 _ _ e4'
  have k46 := k4'.mono s36
  have alen := rf.alen
  dsimp only
  refine Evl.s_if (b := false) (et_same (ev_repr (K := K) (ks := (manyOf ws.marks).map pnK) (by
      have e : (manyOf ws.marks).map pnK = ((ws.answers.map (ansK bk)).filter fun _ => true).map lenK := by
        rw [filt_true, ← rf.many, List.map_map, List.map_map]
        exact List.map_congr_left fun e _ => (lenK_ans bk e).symm
      rw [e]
      refine el_lc (src_at (Evl.ev_var rfl) (.of e46) k46) (by rw [List.length_map]; omega) fun k hk H7 y s7 hy => ?_
      obtain ⟨e, he, rfl⟩ := List.mem_map.mp hk
      obtain ⟨tq, qxs, rfl, g1, g2⟩ := hy.tupRef
      cases g2 with
      | cons y1 g2 =>
      cases g2 with
      | cons y2 g2 =>
      cases g2
      intro Q1 q1
      refine ⟨tq, _, rfl, .of g1, rfl, _, _, rfl, _, _, rfl, rfl, q1 _ H7 (.rf _) rfl et_yes fun _ => ?_⟩
      exact ek_tup (eks_cons (ek_var rfl y1) (eks_cons (ek_num (ek_len (ek_var rfl y2))) eks_nil))) rf.showN) (ev_reprAt (Evl.ev_var rfl) eb6 kb6 rf.showN) rfl) (fun hb H7 s7 => by cases hb) (fun _ H7 s7 => ?_)
  refine s_nil ?_
  refine s_asgLK (ks := []) (el_lstK eks_nil) fun tr xs8 H8 htr s8 etr ktr => ?_
  cases ktr
  have s68 := s7.tr s8
  have sc8 := sc6.tr s68
  have htr0 : H tr = none := (sc6.tr s7).no htr
  have e48 := s68 _ _ e46
  have k48 := k46.mono s68
  have ea8 := s68 _ _ ea6
  have ka8 := ka6.mono s68
  have e58 := (s36.tr s68) _ _ e5
  have k58 := k5.mono (s36.tr s68)
  have tr4 : p4 ≠ tr := ne_of_none (s7 _ _ e46) htr
  have trm : ma ≠ tr := ne_of_none (s7 _ _ ea6) htr
  have tr5 : p5 ≠ tr := ne_of_none ((s36.tr s7) _ _ e5) htr
  clear e3 e3' k3 k3' e4 e4' k4 k4' e35 k35 e8 k8 hp8 ea ka eb kb ea6 ka6 eb6 kb6 etp htp s36 s46
  dsimp only
  have l4 : x4.length = ws.answers.length := by rw [k48.length, List.length_map]
  have lsum : lenSum ws.answers ≤ 42000 := Nat.le_trans (lenSum_le fun e he => (rf.ans e he).2.1) (by omega)
  have tupK : ∀ {Ha Hb : Hp}, (∃ xs, Ha tr = some (.lst xs)) → Kp Ha Hb tr → TupLe Ha Hb := fun ⟨xs, hx⟩ k => k.tup fun ys e => by rw [hx] at e; cases e
  refine Evl.s_forL (Evl.ev_var rfl) (.of e48) (fun i σ' H' => (σ'.length = 22 ∧ σ'[0]? = some (some bv) ∧ σ'[1]? = some (some tv) ∧ σ'[2]? = some (some (.int day)) ∧ σ'[5]? = some (some (.ref p5)) ∧ σ'[9]? = some (some (.ref ma)) ∧ σ'[12]? = some (some (.ref tr))) ∧ Kp H8 H' tr ∧ ∃ xs, H' tr = some (.lst xs) ∧ xs.length = lenSum (ws.answers.take i))
    (fun H9 s9 => ⟨⟨rfl, rfl, rfl, rfl, rfl, rfl, rfl⟩, fun b u _ e => s9 _ _ e, [], s9 _ _ etr, rfl⟩) (fun i σ' H' _ h => .of (h.2.1 _ _ tr4 e48)) ?_ ?_
  · rintro i v σ' H9 hi ⟨⟨sh, z0, z1, z2, z5, z9, z12⟩, kp9, xs, etr9, lxs⟩
    obtain ⟨k, hk', hv⟩ := k48.getV hi
    rw [List.getElem?_map] at hk'
    obtain ⟨e, he, rfl⟩ := Option.map_eq_some_iff.mp hk'
    obtain ⟨ego, el, eds⟩ := rf.ans e (List.mem_of_getElem? he)
    have tk9 := tupK ⟨_, etr⟩ kp9
    obtain ⟨a0, a1, a2, a3, a4, a5, a6, a7, a8, a9, a10, a11, a12, a13, a14, a15, a16, a17, a18, a19, a20, a21, rfl⟩ := list22 sh
    cases z0; cases z1; cases z2; cases z5; cases z9; cases z12
    obtain ⟨tq, qxs, rfl, g1, g2⟩ := (KAt.keep tk9 _ _ hv).tupRef
    cases g2 with
    | @cons pv9 _ _ _ y1 g2 =>
    cases g2 with
    | @cons sv9 _ _ _ y2 g2 =>
    cases g2
    refine ⟨tq, _, rfl, .of g1, rfl, _, _, rfl, _, _, rfl, rfl, ?_⟩
    obtain ⟨sa, sxs, rfl, hsa, ksa⟩ := y2.tupRef
    dsimp only
    have lsx : sxs.length = e.2.length := by rw [ksa.length, paidL_len]
    have ltk : lenSum (ws.answers.take i) ≤ lenSum ws.answers := by
      have h1 : lenSum ws.answers = lenSum (ws.answers.take i) + lenSum (ws.answers.drop i) := by
        unfold lenSum
        rw [← List.sum_append, ← List.map_append, List.take_append_drop]
      omega
    refine ⟨.ref tr, rfl, .inl ⟨rfl, _, .of etr9⟩, .ref sa, rfl, tr, sa, xs, sxs, rfl, rfl, etr9, .of hsa, Evl.sz_of (by omega), ?_⟩
    have kpu : Kp H8 (upd H9 tr (.lst (xs ++ sxs))) tr := fun b u hb eb' => by
      rw [upd_ne hb]; exact kp9 b u hb eb'
    have t9u : TupLe H9 (upd H9 tr (.lst (xs ++ sxs))) := keep_at etr9
    have hsau := t9u _ _ hsa
    have ksau := KAll.keep t9u _ _ ksa
    have y1u := KAt.keep t9u _ _ y1
    have etru : (upd H9 tr (.lst (xs ++ sxs))) tr = some (.lst (xs ++ sxs)) := upd_same
    have lnew : (xs ++ sxs).length = lenSum (ws.answers.take (i + 1)) := by rw [lenSum_take he, List.length_append, lxs, lsx]
    have eau := kpu _ _ trm ea8
    have kau := KAll.keep (tupK ⟨_, etr⟩ kpu) _ _ ka8
    generalize xs ++ sxs = xs2 at etru lnew kpu t9u hsau ksau y1u eau kau
    generalize upd H9 tr (.lst xs2) = H10 at *
    dsimp only
    refine Evl.s_forT (Evl.ev_var rfl) (.of hsau) (fun j σ' H' => (σ'.length = 22 ∧ σ'[0]? = some (some bv) ∧ σ'[1]? = some (some tv) ∧ σ'[2]? = some (some (.int day)) ∧ σ'[5]? = some (some (.ref p5)) ∧ σ'[7]? = some (some pv9) ∧ σ'[9]? = some (some (.ref ma)) ∧ σ'[12]? = some (some (.ref tr))) ∧ Same H10 H')
      (fun H11 s11 => ⟨⟨rfl, rfl, rfl, rfl, rfl, rfl, rfl, rfl⟩, s11⟩) (fun j σ' H' _ h => .of (h.2 _ _ hsau)) ?_ ?_
    · rintro j u σ' H11 hj ⟨⟨sh, z0, z1, z2, z5, z7, z9, z12⟩, s11⟩
      obtain ⟨k, hk2, hu11⟩ := ksau.getV hj
      obtain ⟨d, hd, rfl⟩ := mem_paidL (List.mem_of_getElem? hk2)
      obtain ⟨dp, dm⟩ := eds d hd
      obtain ⟨a0, a1, a2, a3, a4, a5, a6, a7, a8, a9, a10, a11, a12, a13, a14, a15, a16, a17, a18, a19, a20, a21, rfl⟩ := list22 sh
      cases z0; cases z1; cases z2; cases z5; cases z7; cases z9; cases z12
      have hdu := hu11.mono s11
      have hpu := y1u.mono s11
      have hdep : NestedKey.depthAll (pgs (madeOf ws.marks)) ≤ 30 := depthAll_le fun k hk => by
        obtain ⟨r, _, rfl⟩ := mem_pgs hk
        exact Nat.le_trans r.key_depth (by decide)
      have c1 : cutK (dItems d) none (some 2) = cutK e.1.items (some 2) (some 4) := by
        rw [go_cut ego, ← dp]; rfl
      have c2 : d.2.2.key ∈ pgs (madeOf ws.marks) := List.mem_map.mpr ⟨_, dm, rfl⟩
      refine Evl.s_if (b := false || false) (Evl.et_or (et_T (Evl.ev_is (eb_neN (ek_sl (ks := dItems d) (lo := none) (hi := some 2) (ek_var rfl hdu) eo_non eo_int) (ek_sl (ks := e.1.items) (lo := some 2) (hi := some 4) (ek_var rfl hpu) eo_int eo_int) (Nat.le_of_ble_eq_true rfl)) (by rw [decide_eq_true c1]; rfl))) fun _ => et_T (Evl.ev_is (eb_in (neg := true) (ek_ix (ks := dItems d) (ek_var rfl hdu) Evl.ev_c (d2 d)) (Evl.ev_var rfl) (.inl (.of (s11 _ _ eau))) (kau.mono s11) hdep) (by rw [if_pos rfl, decide_eq_true c2]; rfl))) (fun hb H12 s12 => by cases hb) (fun _ H12 s12 => ?_)
      refine s_nil ?_
      exact ⟨⟨rfl, rfl, rfl, rfl, rfl, rfl, rfl, rfl⟩, s11.tr s12⟩
    · rintro σ' H11 ⟨⟨sh, z0, z1, z2, z5, z7, z9, z12⟩, s11⟩
      exact ⟨⟨sh, z0, z1, z2, z5, z9, z12⟩, fun b u hb eb' => s11 _ _ (kpu b u hb eb'), xs2, s11 _ _ etru, lnew⟩
  rintro σ' H9 ⟨⟨sh, z0, z1, z2, z5, z9, z12⟩, kp9, xs, etr9, lxs⟩
  rw [l4, List.take_length] at lxs
  have tk9 := tupK ⟨_, etr⟩ kp9
  have sc9 : Same H H9 := fun b u e => kp9 b u (ne_of_none e htr0) (sc8 _ _ e)
  have ea9 := kp9 _ _ trm ea8
  have ka9 := KAll.keep tk9 _ _ ka8
  have e59 := kp9 _ _ tr5 e58
  have k59 := KAll.keep tk9 _ _ k58
  obtain ⟨a0, a1, a2, a3, a4, a5, a6, a7, a8, a9, a10, a11, a12, a13, a14, a15, a16, a17, a18, a19, a20, a21, rfl⟩ := list22 sh
  cases z0; cases z1; cases z2; cases z5; cases z9; cases z12
  clear kp9 tk9 ea8 ka8 e58 k58 e48 k48 etr
  refine s_asgK (eS rfl rfl rfl sc9) fun sv H10 s10 hsv => ?_
  have sc10 := sc9.tr s10
  have etr10 := s10 _ _ etr9
  have ea10 := s10 _ _ ea9
  have ka10 := ka9.mono s10
  have e510 := s10 _ _ e59
  have k510 := k59.mono s10
  have la : xa.length = (madeOf ws.marks).length := by rw [ka9.length]; unfold pgs; rw [List.length_map]
  have l5 : x5.length = ws.falls.length := by rw [k59.length, toldL_len]
  have b1 : ((xs.length : Nat) : Int) = ((lenSum ws.answers : Nat) : Int) := by rw [lxs]
  have b2 : ((xa.length : Nat) : Int) = ws.made := by rw [la, rf.made]
  have b3 : ws.made + ws.copied = ([(ws.falls.length : Int), (lenSum ws.answers : Int), ws.struck, ws.merged] : List Int).sum := by
    have := rf.cons
    simp only [List.sum_cons, List.sum_nil]
    omega
  have b4 : ((x5.length : Nat) : Int) = ((ws.falls.length : Nat) : Int) := by rw [l5]
  have i0 : atI (sixOf ws) 0 = some (.num ws.made) := rfl
  have i1 : atI (sixOf ws) 1 = some (.num ws.copied) := rfl
  have i2 : atI (sixOf ws) 2 = some (.num (ws.falls.length : Int)) := rfl
  have i3 : atI (sixOf ws) 3 = some (.num (lenSum ws.answers : Int)) := rfl
  have i4 : cutK (sixOf ws) (some 2) none = nums [(ws.falls.length : Int), (lenSum ws.answers : Int), ws.struck, ws.merged] := rfl
  clear etr9 ea9 ka9 e59 k59 sc9 htr tr4 trm tr5
  dsimp only
  refine Evl.s_if (b := false || (false || (false || false))) (Evl.et_or (et_T (Evl.ev_is (eb_neI (ev_lenAt (Evl.ev_var rfl) (.of etr10)) (EvK.num (ek_ix (ek_var rfl hsv) Evl.ev_c i3))) (by rw [decide_eq_true b1]; rfl))) fun _ =>
    Evl.et_or (et_T (Evl.ev_is (eb_neI (ev_lenAt (Evl.ev_var rfl) (.of ea10)) (EvK.num (ek_ix (ek_var rfl hsv) Evl.ev_c i0))) (by rw [decide_eq_true b2]; rfl))) fun _ =>
    Evl.et_or (et_T (Evl.ev_is (eb_neI (ev_add (EvK.num (ek_ix (ek_var rfl hsv) Evl.ev_c i0)) (EvK.num (ek_ix (ek_var rfl hsv) Evl.ev_c i1))) (ev_sumT (by rw [← i4]; exact ek_sl (ek_var rfl hsv) eo_int eo_non))) (by rw [decide_eq_true b3]; rfl))) fun _ =>
    et_T (Evl.ev_is (eb_neI (ev_lenAt (Evl.ev_var rfl) (.of e510)) (EvK.num (ek_ix (ek_var rfl hsv) Evl.ev_c i2))) (by rw [decide_eq_true b4]; rfl))) (fun hb H11 s11 => by cases hb) (fun _ H11 s11 => ?_)
  refine s_nil ?_
  have sc11 := sc10.tr s11
  have ea11 := s11 _ _ ea10
  have ka11 := ka10.mono s11
  have e511 := s11 _ _ e510
  have k511 := k510.mono s11
  have tl := rf.toldLen
  have hdep : NestedKey.depthAll (pgs (madeOf ws.marks)) ≤ 30 := depthAll_le fun k hk => by
    obtain ⟨r, _, rfl⟩ := mem_pgs hk
    exact Nat.le_trans r.key_depth (by decide)
  clear etr10 ea10 ka10 e510 k510 b1 b2 b3 b4 i0 i1 i2 i3 i4
  refine Evl.s_if (b := false) (et_T (eb_nnilL (K := K) (el_bad rf rfl rfl rfl e511 k511 ea11 ka11))) (fun hb H12 s12 => by cases hb) (fun _ H12 s12 => ?_)
  refine s_nil ?_
  have sc12 := sc11.tr s12
  have e512 := s12 _ _ e511
  have k512 := k511.mono s12
  clear ea11 ka11 e511 k511
  refine s_asgLK (el_pairs rf rfl rfl e512 k512) fun p15 x15 H13 hp15 s13 e15 k15 => ?_
  have sc13 := sc12.tr s13
  have e513 := s13 _ _ e512
  have k513 := k512.mono s13
  obtain ⟨ps, hps⟩ := prs_of (L := pairsL ws bk) fun k hk => pairsL_prK rf.pages hk
  dsimp only
  refine seq_asg ?_
  refine rd_rows (K := K) (l := p15) (ps := ps) rfl e15 (by rw [← hps]; exact k15) (fun qs nd hq => rf.few qs nd fun q h => by rw [hps]; exact List.mem_map.mpr ⟨q, hq q h, rfl⟩) fun pq xq qs hpq nd mem hkq => ?_
  have s14 : Same H13 (upd H13 pq (.lst xq)) := .up hpq
  have gv : Gives (Itl K pq) (upd H13 pq (.lst xq)) ((qs.map prK).mergeSort leN) := gives_list' (.of upd_same) (hkq.mono s14)
  have qmem : ∀ k ∈ (qs.map prK).mergeSort leN, ∃ q, k = prK q ∧ k ∈ pairsL ws bk := fun k hk => by
    obtain ⟨q, hq, rfl⟩ := List.mem_map.mp ((List.mergeSort_perm _ _).mem_iff.mp hk)
    exact ⟨q, rfl, by rw [hps]; exact List.mem_map.mpr ⟨q, (mem q).mp hq, rfl⟩⟩
  have qlen : ((qs.map prK).mergeSort leN).length < 63 := by
    rw [List.length_mergeSort, List.length_map]
    exact rf.few qs nd fun q h => by rw [hps]; exact List.mem_map.mpr ⟨q, (mem q).mp h, rfl⟩
  have sortEq : ∀ us : List NestedKey, us.Nodup → (∀ k, k ∈ us ↔ k ∈ pairsL ws bk) → us.mergeSort leN = (qs.map prK).mergeSort leN := fun us nu hm =>
    sort_prK_eq (fun k hk => pairsL_prK rf.pages ((hm k).mp hk)) nu (nodup_prK nd) fun k => by
      rw [hm, hps]
      constructor
      · intro h
        obtain ⟨q, hq, rfl⟩ := List.mem_map.mp h
        exact List.mem_map.mpr ⟨q, (mem q).mpr hq, rfl⟩
      · intro h
        obtain ⟨q, hq, rfl⟩ := List.mem_map.mp h
        exact List.mem_map.mpr ⟨q, (mem q).mp hq, rfl⟩
  have e15' := s14 _ _ e15
  have k15' := k15.mono s14
  have e514 := s14 _ _ e513
  have k514 := k513.mono s14
  have sc14 := sc13.tr s14
  generalize (qs.map prK).mergeSort leN = L0 at gv qmem qlen sortEq
  generalize upd H13 pq (.lst xq) = H14 at *
  have hdepP : NestedKey.depthAll (pairsL ws bk) ≤ 30 := depthAll_le fun k hk => by
    obtain ⟨q, rfl⟩ := pairsL_prK rf.pages hk
    exact Nat.le_trans (prK_depth q) (by decide)
  refine (el_rows (K := K) rf rfl rfl e15' k15' gv qmem qlen) _ (.rf _) _ fun p16 x16 H15 hp16 s15 e16 k16 => ?_
  have sc15 := sc14.tr s15
  have e515 := s15 _ _ e514
  have k515 := k514.mono s15
  have showR := rf.showR (ks := L0) (fun k hk => (qmem k hk).choose_spec.2) (by omega)
  clear gv e15' k15' e514 k514 e15 k15 e513 k513 e512 k512
  unfold gName
  dsimp only
  have evM : ∀ {σ : L2.St}, σ[0]? = some (some bv) → σ[1]? = some (some tv) → σ[2]? = some (some (.int day)) → Ev (tCB (rRepr K) (tCons (tCall spMatters [] E0 (tCons (tVar 0) (tCons (tVar 1) (tCons (tVar 2) tNil)))) tNil)) σ H15 (.str (PyData.shown (.list (NestedKey.datas (L0.map (addC (pairsL ws bk))))))) := fun z0 z1 z2 H16 e Q16 q16 =>
    eT z0 z1 z2 (sc15.tr e) fun p xs H17 us hp s17 e17 nd mem hk => ⟨p, xs, L0.map (addC (pairsL ws bk)), rfl, .of e17, by rw [← sortEq us nd mem]; exact hk, showR.dep, showR.sh, showR.len, q16 H17 s17⟩
  refine Evl.s_if (b := false) (et_same (evM rfl rfl rfl) (ev_reprAt (Evl.ev_var rfl) e16 k16 showR) rfl) (fun hb H16 s16 => by cases hb) (fun _ H16 s16 => ?_)
  refine s_nil ?_
  have sc16 := sc15.tr s16
  have e516 := s16 _ _ e515
  have k516 := k515.mono s16
  have e166 := s16 _ _ e16
  have k166 := k16.mono s16
  clear evM e515 k515 e16 k16
  have l16 : x16.length < 63 := by rw [k166.length, List.length_map]; exact qlen
  have c1 := cutV_le x16 none (some 2)
  have c2 := cutV_le x16 (some (-1)) none
  have kc : KAll H16 (cutV x16 none (some 2) ++ cutV x16 (some (-1)) none) (cutK (L0.map (addC (pairsL ws bk))) none (some 2) ++ cutK (L0.map (addC (pairsL ws bk))) (some (-1)) none) := (kall_cut k166 _ _).append (kall_cut k166 _ _)
  have kcm : ∀ k ∈ cutK (L0.map (addC (pairsL ws bk))) none (some 2) ++ cutK (L0.map (addC (pairsL ws bk))) (some (-1)) none, ∃ d ∈ akeys ws.falls, ∃ n : Int, k = .tup [.text d.1, .text d.2.1, .num n] := fun k hk => by
    have hk2 : k ∈ L0.map (addC (pairsL ws bk)) := (List.mem_append.mp hk).elim mem_cutK mem_cutK
    obtain ⟨k', hk', rfl⟩ := List.mem_map.mp hk2
    obtain ⟨q, rfl, hq⟩ := qmem k' hk'
    obtain ⟨d, hd, rfl⟩ := mem_pairsL rf.pages hq
    exact ⟨d, hd, _, rfl⟩
  have elc : Evl.EvL (tOp rCat (tSl (rSlL K) (tVar 16) tNoPart (tPart (tC (.int 2)))) (tSl (rSlL K) (tVar 16) (tPart (tUn (rU fun i => .int (-i)) (tC (.int 1)))) tNoPart)) [some bv, some tv, some (.int day), a3, a4, some (.ref p5), a6, a7, a8, some (.ref ma), a10, a11, some (.ref tr), a13, some sv, some (.ref p15), some (.ref p16), a17, a18, a19, a20, a21] H16 (cutV x16 none (some 2) ++ cutV x16 (some (-1)) none) :=
    el_cat (Evl.el_sl (K := K) (Evl.ev_var rfl) eo_non eo_int (.of e166)) (Evl.el_sl (K := K) (Evl.ev_var rfl) (Evl.eo_some ev_neg1) eo_non (.of e166)) (by omega)
  generalize cutV x16 none (some 2) ++ cutV x16 (some (-1)) none = xc at kc elc
  generalize cutK (L0.map (addC (pairsL ws bk))) none (some 2) ++ cutK (L0.map (addC (pairsL ws bk))) (some (-1)) none = ksc at kc kcm
  refine Evl.s_forNL (K := K) (xs := xc) elc (fun p i σ' H' => (σ'.length = 22 ∧ σ'[0]? = some (some bv) ∧ σ'[1]? = some (some tv) ∧ σ'[2]? = some (some (.int day)) ∧ σ'[5]? = some (some (.ref p5))) ∧ Same H16 H' ∧ H' p = some (.lst xc))
    (fun p H17 hp s17 e17 => ⟨⟨rfl, rfl, rfl, rfl, rfl⟩, s17, e17⟩) (fun p i σ' H' _ h => .of h.2.2) ?_ ?_
  · rintro p i v σ' H17 hi ⟨⟨sh, z0, z1, z2, z5⟩, s17, e17⟩
    obtain ⟨k, hk', hv⟩ := kc.getV hi
    obtain ⟨d, hd, n, rfl⟩ := kcm k (List.mem_of_getElem? hk')
    obtain ⟨_, _, _, o4, o5⟩ := rf.own d hd
    obtain ⟨a0, a1, a2, a3, a4, a5, a6, a7, a8, a9, a10, a11, a12, a13, a14, a15, a16, a17, a18, a19, a20, a21, rfl⟩ := list22 sh
    cases z0; cases z1; cases z2; cases z5
    obtain ⟨tq, qxs, rfl, g1, g2⟩ := (hv.mono s17).tupRef
    cases g2 with
    | cons y1 g2 =>
    cases g2 with
    | cons y2 g2 =>
    cases g2 with
    | cons y3 g2 =>
    cases g2; cases y1; cases y2; cases y3
    refine ⟨tq, _, rfl, .of g1, rfl, _, _, rfl, _, _, rfl, _, _, rfl, rfl, ?_⟩
    dsimp only
    refine Evl.s_if (b := false) (et_same (ev_repr (K := K) (eO rfl rfl rfl rfl rfl (sc16.tr s17) o4 o5) (rf.showT _)) (ev_repr (K := K) (el_same rf rfl rfl rfl rfl (s17 _ _ e516) (k516.mono s17)) (rf.showT _)) rfl) (fun hb H18 s18 => by cases hb) (fun _ H18 s18 => ?_)
    refine s_nil ?_
    exact ⟨⟨rfl, rfl, rfl, rfl, rfl⟩, s17.tr s18, s18 _ _ e17⟩
  · rintro p σ' H17 ⟨⟨sh, z0, z1, z2, z5⟩, s17, e17⟩
    exact q H17 (sc16.tr s17)
end
end CB
/-! CBR1 -/
set_option Elab.async false
set_option autoImplicit false
set_option linter.all false
set_option maxRecDepth 100000
set_option maxHeartbeats 4000000
/-! The law. -/
namespace CB
open PySem PySem.Spec PyProof.Rows L2
open Evl (Ev EvT EvA EvO)
def sp_law (K : PySem.W.Frag) : Sp := fun vs H Q _ => ∃ (a : Addr) (ns : List Int), vs = [.ref a] ∧ SqL K H a (ns.map V.int) ∧ ns.length ≤ 63 ∧ ∀ H', Q (.bl true) H'
theorem wok_nil {bk : List Pg} {t : Int × Int} (c : CaseOk bk t) {day : Int} (h0 : 0 ≤ day) (h1 : day ≤ 90000) : WOk [] t day :=
  ⟨Bk.nil, ⟨h0, h1⟩, by have := c.t1; omega, by have := c.t2; omega⟩
theorem op_un {r : R2} {ta tb : TE} {σ : L2.St} {H : Hp} {Q : VK} (h : ta σ H fun x H1 => tb σ H1 fun y H2 => r x y H2 Q) : tOp r ta tb σ H Q := h
theorem rd_matters {ta : TA} {σ : L2.St} {H : Hp} {Q : VK} {bk : List Pg} {t : Int × Int} {day : Int} (h : EvKs ta σ H (argK bk t day)) (wk : WOk bk t day)
    (q : ∀ p xs H' (us : List NestedKey), H p = none → Same H H' → H' p = some (.lst xs) → us.Nodup → (∀ k, k ∈ us ↔ k ∈ pairsL (WS.goTo t bk day) bk) → KAll H' xs ((us.mergeSort leN).map (addC (pairsL (WS.goTo t bk day) bk))) → Q (.ref p) H') : tCall spMatters [] E0 ta σ H Q :=
  h H (.rf _) _ fun vs H2 s2 hv => by
    show spMatters (vs ++ []) H2 _ _
    rw [List.append_nil]
    exact ⟨bk, t, day, hv, wk, fun p xs H' us hp s' e nd mem hk => q p xs H' us (s2.no hp) (s2.tr s') e nd mem hk⟩
section
variable {P : Program} {w : World} {K : PySem.W.Frag} {mg : Str → Option Value} {base : Heap} (T : Tp K mg)
include T
theorem fn_law {fdr : FuncData} (Fr : FunD K "_law_right" "_law_right" (defArgs s_l_right) (defBody s_l_right) (defScope s_l_right) [] [] (He.fAd K ("_law_right", none)) fdr) {fd : FuncData} (F : FunD K "law" "law" (defArgs s_law) (defBody s_law) (defScope s_law) [] [] (He.fAd K ("law", none)) fd) : FnG P w K mg base 12 (He.fAd K ("law", none)) fd ["_law_script"] (sp_law K) := by
  have G1 := ok_feed (P := P) (w := w) (base := base) T
  have G2 := ok_l_case (P := P) (w := w) (base := base) T
  have G3 := fn_right (P := P) (w := w) (base := base) T Fr
  have G4 := ok_sums (P := P) (w := w) (base := base) T
  have G5 := ok_matters (P := P) (w := w) (base := base) T
  have B3 : Binds K fdr ["_law_book_here", "_law_terms", "_law_day"] [] := Fr.bindsN (fun _ _ _ _ _ _ us hl => match us, hl with | [_, _, _], _ => rfl)
  refine fnG_of F c_law (fun vs H Q E ⟨a, ns, e, _⟩ => by rw [e]; rfl) (fun cdv A outer s0 H vs Q E hg hr h => ?_)
  obtain ⟨a, ns, rfl, hs, hl, q⟩ := h
  have hu := hr.units
  have hr10 := hr.mono (by decide : 10 ≤ 11)
  have hr9 := hr.mono (by decide : 9 ≤ 11)
  have hr8 := hr.mono (by decide : 8 ≤ 11)
  have hr6 := hr.mono (by decide : 6 ≤ 11)
  have hr1 := hr.mono (by decide : 1 ≤ 11)
  refine ⟨_, pss_cons (ps_set (i := 1) c_law.nd rfl (.inl rfl) (pe_fn G1 hr1 (by rfl) T.g_l_feed (pa_cons (pv 0) pa_nil)))
    (pss_cons (ps_asg (pe_fn G2 hr6 (by rfl) T.g_l_case (pa_cons (pv 1) pa_nil)) (pg_tup rfl (pgs_cons (pg_name (i := 2) c_law.nd rfl (.inl rfl)) (pgs_cons (pg_name (i := 3) c_law.nd rfl (.inl rfl)) (pgs_cons (pg_name (i := 4) c_law.nd rfl (.inl rfl)) pgs_nil)))))
    (pss_cons (ps_for .never rfl (pi_list (pe_op op_cat (pe_slice sl_list (pv 4) po_none (po_some pe_int)) (pe_lst (pa_cons (pe_ix ix_tup (pe_ix ix_tup (pv 2) (pe_un un_neg pe_int) (fun _ _ => rfl)) pe_int (fun _ _ => rfl)) pa_nil)))) (pg_name (i := 5) c_law.nd rfl (.inl rfl))
      (pss_one (ps_if (pt_not (pt_val (pe_callG G3 hg hr10 (by rfl) T.g_l_right Fr.kp B3 (pa_cons (pv 2) (pa_cons (pv 3) (pa_cons (pv 5) pa_nil)))))) (pss_one (ps_ret pe_bl)) pss_nil)))
    (pss_one (ps_ret (pe_and (pe_cmpR (op_eqN hu) (pe_fn G4 hr8 (by rfl) T.g_sums (pa_cons (pe_tup pa_nil) (pa_cons (pv 3) (pa_cons (pe_ix ix_list (pv 4) pe_int (fun _ _ => rfl)) pa_nil)))) (pe_tup (pa_cons pe_int (pa_cons pe_int (pa_cons pe_int (pa_cons pe_int (pa_cons pe_int (pa_cons pe_int pa_nil))))))) (nomark _))
      (pe_one (pe_cmpR (op_eqNil hu) (pe_fn G5 hr9 (by rfl) T.g_matters (pa_cons (pe_tup pa_nil) (pa_cons (pv 3) (pa_cons (pe_ix ix_list (pv 4) pe_int (fun _ _ => rfl)) pa_nil)))) (pe_lst pa_nil) (nomark _)))))))), ?_⟩
  refine ⟨.ref a, rfl, a, ns, rfl, hs, fun f c H1 s1 F1 => ?_⟩
  dsimp only
  refine ⟨.ref f, rfl, f, c, rfl, F1.le (by decide), fun tp dl bv tv H2 bk t d1 d2 d3 etp hbv htv edl cok hd => ?_⟩
  refine ⟨tp, _, rfl, .of etp, rfl, _, _, rfl, _, _, rfl, _, _, rfl, rfl, ?_⟩
  have hd1 := hd d1 (by simp)
  have hd2 := hd d2 (by simp)
  obtain ⟨nm, nok, nl, bok⟩ := cok.book
  obtain ⟨pre, lst, rfl⟩ : ∃ pre lst, bk = pre ++ [lst] := ⟨_, _, (List.dropLast_concat_getLast bok.ne).symm⟩
  have hls := (bok.good lst (List.mem_append_right _ (List.mem_singleton.mpr rfl))).2
  have ill : atI (pgs (pre ++ [lst])) (-1) = some lst.key := by
    unfold pgs
    rw [List.map_append]
    exact atI_last _ _
  have ecut : cutV [V.int d1, V.int d2, V.int d3] none (some 2) = [V.int d1, V.int d2] := rfl
  generalize pre ++ [lst] = bk at *
  dsimp only
  refine Evl.s_forNL (K := K) (xs := [V.int d1, V.int d2] ++ [V.int lst.day]) (el_cat (by rw [← ecut]; exact Evl.el_sl (K := K) (Evl.ev_var rfl) eo_non eo_int (.of edl)) (Evl.el_lst (Evl.ea_cons (EvK.num (ek_ix (ek_ix (ek_var rfl hbv) ev_neg1 ill) Evl.ev_c lst.items1)) Evl.ea_nil) (Nat.le_of_ble_eq_true rfl)) (Nat.le_of_ble_eq_true rfl))
    (fun p i σ' H' => (σ'.length = 6 ∧ σ'[2]? = some (some bv) ∧ σ'[3]? = some (some tv) ∧ σ'[4]? = some (some (.ref dl))) ∧ Same H2 H' ∧ H' p = some (.lst ([V.int d1, V.int d2] ++ [V.int lst.day])))
    (fun p H3 hp s3 e3 => ⟨⟨rfl, rfl, rfl, rfl⟩, s3, e3⟩) (fun p i σ' H' _ h => .of h.2.2) ?_ ?_
  · rintro p i v σ' H3 hi ⟨⟨sh, z2, z3, z4⟩, s3, e3⟩
    obtain ⟨day, rfl, h0, h9⟩ : ∃ day : Int, v = .int day ∧ 0 ≤ day ∧ day ≤ 90000 := by
      have hm : v ∈ [V.int d1, V.int d2, V.int lst.day] := List.mem_of_getElem? hi
      simp only [List.mem_cons, List.not_mem_nil, or_false] at hm
      rcases hm with rfl | rfl | rfl
      · exact ⟨d1, rfl, by omega, by omega⟩
      · exact ⟨d2, rfl, by omega, by omega⟩
      · exact ⟨lst.day, rfl, by omega, by omega⟩
    obtain ⟨σ0, σ1, σ2, σ3, σ4, σ5, rfl⟩ : ∃ a b c d e f, σ' = [a, b, c, d, e, f] := by
      match σ', sh with
      | [a, b, c, d, e, f], _ => exact ⟨a, b, c, d, e, f, rfl⟩
    cases z2; cases z3; cases z4
    have evR : Ev (tCall spRight [] E0 (tCons (tVar 2) (tCons (tVar 3) (tCons (tVar 5) tNil)))) [σ0, σ1, some bv, some tv, some (.ref dl), some (.int day)] H3 (.bl true) := fun H4 e Q4 q4 =>
      (eks_cons (ek_var rfl (hbv.mono s3)) (eks_cons (ek_var rfl (htv.mono s3)) (eks_cons (ek_num (Evl.ev_var rfl)) eks_nil)) : EvKs _ _ H3 (argK bk t day)) H4 e _ fun vs H5 s5 hv => by
        show spRight (vs ++ []) H5 _ _
        rw [List.append_nil]
        exact ⟨bk, t, day, hv, cok, h0, h9, fun H6 s6 => q4 H6 (s5.tr s6)⟩
    refine Evl.s_if (b := !true) (Evl.et_not (et_B evR)) (fun hb H4 s4 => by cases hb) (fun _ H4 s4 => ?_)
    refine s_nil ?_
    exact ⟨⟨rfl, rfl, rfl, rfl⟩, s3.tr s4, s4 _ _ e3⟩
  · rintro p σ' H3 ⟨⟨sh, z2, z3, z4⟩, s3, e3⟩
    obtain ⟨σ0, σ1, σ2, σ3, σ4, σ5, rfl⟩ : ∃ a b c d e f, σ' = [a, b, c, d, e, f] := by
      match σ', sh with
      | [a, b, c, d, e, f], _ => exact ⟨a, b, c, d, e, f, rfl⟩
    cases z2; cases z3; cases z4
    have edl3 := s3 _ _ edl
    have wk := wok_nil cok (day := d1) (by omega) (by omega)
    have htv3 := htv.mono s3
    have evD : ∀ {H4 : Hp}, Same H3 H4 → Ev (tOp (rIxL K) (tVar 4) (tC (.int 0))) [σ0, σ1, some bv, some tv, some (.ref dl), σ5] H4 (.int d1) := fun s => Evl.ev_op (Evl.ev_var rfl) Evl.ev_c (Evl.rv_ixL (.of (s _ _ edl3)) rfl)
    have args : ∀ {H4 : Hp}, Same H3 H4 → EvKs (tCons (tTup tNil) (tCons (tVar 3) (tCons (tOp (rIxL K) (tVar 4) (tC (.int 0))) tNil))) [σ0, σ1, some bv, some tv, some (.ref dl), σ5] H4 (argK [] t d1) := fun s =>
      eks_cons (ek_tup eks_nil) (eks_cons (ek_var rfl (htv3.mono s)) (eks_cons (ek_num (evD s)) eks_nil))
    have evS : EvK (tCall (spF fSums) [] E0 (tCons (tTup tNil) (tCons (tVar 3) (tCons (tOp (rIxL K) (tVar 4) (tC (.int 0))) tNil)))) [σ0, σ1, some bv, some tv, some (.ref dl), σ5] H3 (.tup [.num 0, .num 0, .num 0, .num 0, .num 0, .num 0]) := ek_call (args (.rf _)) ⟨[], t, d1, rfl, wk, rfl⟩
    refine (Evl.ev_is (eb_eqN evS (ek_tup (eks_cons ek_int (eks_cons ek_int (eks_cons ek_int (eks_cons ek_int (eks_cons ek_int (eks_cons ek_int eks_nil))))))) (Nat.le_of_ble_eq_true rfl)) (w := .bl true) (by rw [decide_eq_true rfl])) _ (Evl.Ex.refl _) _ fun H4 s4 => ⟨true, rfl, ?_⟩
    rw [if_pos rfl]
    refine op_un (rd_matters (args s4) wk fun p xs H6 us hp s6 e6 nd mem hk => ?_)
    have hus : us = [] := List.eq_nil_iff_forall_not_mem.mpr fun k hk => by
      have := (mem k).mp hk
      have e0 : pairsL (WS.goTo t [] d1) [] = [] := List.eq_nil_of_length_eq_zero (by
        unfold pairsL
        rw [List.length_map, toldL_len]; rfl)
      rw [e0] at this
      exact absurd this List.not_mem_nil
    subst hus
    have hxs : xs = [] := by
      have hk' : KAll H6 xs [] := by
        rw [List.mergeSort] at hk
        exact hk
      cases hk'; rfl
    subst hxs
    refine ⟨Nat.zero_le _, fun r hr => ⟨p, r, [], rfl, rfl, .of ((Same.up hr) _ _ e6), .of upd_same, ?_⟩⟩
    exact q _
end
theorem ok_law {P : Program} {w : World} {K : PySem.W.Frag} {mg : Str → Option Value} (T : Tp K mg) : ∃ fd, (∀ (s : Shared) (u : Value), BindsTo s fd ⟨[u], []⟩ [("_law_script", u)]) ∧ ∀ base : Heap, K.In base → base.Ns mainGlobals mg → FnG P w K mg base 12 (He.fAd K ("law", none)) fd ["_law_script"] (sp_law K) := by
  obtain ⟨fd, F⟩ := T.f_law
  obtain ⟨fdr, Fr⟩ := T.f_l_right
  exact ⟨fd, fun s u => F.bindsA (ps := ["_law_script"]) (fun _ _ _ _ _ _ us hl => match us, hl with | [_], _ => rfl) s [u] rfl, fun base _ _ => fn_law T Fr F⟩
end CB
/-! CBEnd -/
set_option Elab.async false
set_option autoImplicit false
set_option linter.all false
set_option maxRecDepth 100000
set_option maxHeartbeats 0
namespace CB
open PySem PySem.Spec PyProof.Rows L2
theorem walk_E {l : PySem.W.OpenLaw} {n k : Nat} {q : Program} {loose : List Str} {XP : (Str → Option Value) → Heap → Prop} {YP : World → Heap → Prop} {d : DefRec} {x : Str} (hn : l.most = some n) (hn2 : n ≤ sizeLine) (hdf : d.params.defaults = []) (hr : Room k callerA)
    (F : ∀ (w : World) (mg : Str → Option Value) (fa : Addr) (h : Heap), YP w h → h.Ns mainGlobals mg → mg d.name = some (.ref fa) → ∃ (K : PySem.W.Frag) (fd : FuncData) (sp : Sp), K.In h ∧ (∀ (s : Shared) (u : Value), BindsTo s fd ⟨[u], []⟩ [(x, u)]) ∧
        (∀ (H : Hp) (a : Addr) (ns : List Int), ns.length ≤ n → Only H → SqL K H a (ns.map V.int) → sp [.ref a] H (fun v _ => v = .bl true) E0) ∧ ∀ base : Heap, K.In base → base.Ns mainGlobals mg → FnG l.prog w K mg base k fa fd [x] sp) :
    PySem.W.WalkO q loose XP YP l.row.toRowW d [] (fun f vs => PySem.call f vs) :=
  Att.attach_call hn hdf fun w s₀ s₁ mg mb fa o pm cd doc a vs ns G Y ho hd hcd hmg hobj hints hlen hg => by
    obtain ⟨K, fd, sp, KX, hb, hsp, hF⟩ := F w mg fa _ Y G.T.g hmg
    exact call_G KX G.T.g G.T.b G.T.builtins G.T.nolimit hg hobj hints (Nat.le_trans hlen hn2) hr hF hb fun H hO hS => hsp H a ns hlen hO hS
end CB
open PySem PySem.W PySem.Calls PyProof.Rows
theorem PySem.Challenge.cw_cardsback_k27_whole_answer_or_due_holds : PySem.Challenge.rw_cardsback_k27_whole_answer_or_due.Holds := by
  w_on; o_law
  refine HandSHeadRun.head_any (r := CB.theRow) (q := view CB.theRow.prog [43]) (H := CB.hook) (ob := CB.looks) (M := 3000) (loose := CB.loose) (d := HandSHeadRun.topDef CB.theRow.prog 43) (kwd := []) CB.looks_eq
    (by kernel_rfl) (fun s => by kernel_rfl) CB.run (by kernel_rfl) (by kernel_rfl) (by kernel_rfl) (by rfl) (by first | assumption | decide +kernel) (by decide +kernel) ⟨rfl, rfl, rfl, rfl, rfl, by decide +kernel⟩ ?hw ?hc
  case hw => w_witness2
  case hc =>
    refine CB.walk_E (l := PySem.Challenge.rw_cardsback_k27_whole_answer_or_due) (n := 63) (k := 12) (x := "_law_script") rfl (by decide) (by kernel_rfl) ⟨rfl, by decide, by decide⟩ ?F
    intro w mg fa h Y G hmg0
    obtain ⟨K, KX, c, m⟩ := Y
    have hmg : mg ("law" : PySem.Str) = some (.ref fa) := by
      have e : (HandSHeadRun.topDef CB.theRow.prog 43).name = ("law" : PySem.Str) := by kernel_rfl
      rw [← e]
      exact hmg0
    have T : CB.Tp K mg := ⟨c, m, h, KX, G⟩
    obtain ⟨fd, hb, hF⟩ := CB.ok_law (P := (PySem.Challenge.rw_cardsback_k27_whole_answer_or_due).prog) (w := w) T
    have e := hmg.symm.trans T.g_law
    cases e
    exact ⟨K, fd, CB.sp_law K, KX, hb, fun H a ns hl _ hS => ⟨a, ns, rfl, hS, hl, fun _ => rfl⟩, hF⟩
