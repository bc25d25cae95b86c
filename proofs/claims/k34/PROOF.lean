import PyProof.Rows.All
import Wide.All
import OpenK.AllK
import Wide.FinOn
import KE.KStateDown
import KE.SortKeyHeap
import KE.KDictKeyed
import KE.GoesMore
import KE.GoesEnum
import HandS.ForMost
import HandS.Defaults
import HandS.Exc
import HandS.Deep
import HandS.TupAny
import HandS.TupLe
import HandS.Strs
import HandS.Conv
import HandS.NoneIn
import HandS.SetKeys
import HandS.SortKw
import HandS.Head0
import HandS.Head1
import HandS.Head2
import HandS.HeadEnd
import HandS.HeadHook4
import PySem.Challenge.RW_cardsback_k34_whole_last_is_last
set_option Elab.async false
set_option linter.all false
set_option maxRecDepth 100000
set_option maxHeartbeats 4000000
namespace K34
open PySem PySem.Spec L2

/-! ### frozen data: ints, texts, None, tuples of these, over the abstract heap -/
mutual
inductive Fz (H : Hp) : V → NestedKey → Prop
  | non : Fz H .non .none
  | int (i : Int) : Fz H (.int i) (.num i)
  | str (x : Str) : Fz H (.str x) (.text x)
  | tup {a : Addr} {xs : List V} {ks : List NestedKey} : H a = some (.tup xs) → FzA H xs ks → Fz H (.ref a) (.tup ks)
inductive FzA (H : Hp) : List V → List NestedKey → Prop
  | nil : FzA H [] []
  | cons {v : V} {vs : List V} {k : NestedKey} {ks : List NestedKey} : Fz H v k → FzA H vs ks → FzA H (v :: vs) (k :: ks)
end
/-- tuples are kept -/
def TK (H H' : Hp) : Prop := ∀ a xs, H a = some (.tup xs) → H' a = some (.tup xs)
theorem TK.refl (H : Hp) : TK H H := fun _ _ h => h
theorem TK.trans {H H1 H2 : Hp} (a : TK H H1) (b : TK H1 H2) : TK H H2 := fun c xs h => b c xs (a c xs h)
theorem TK.of_same {H H' : Hp} (h : Same H H') : TK H H' := fun a xs e => h a _ e
theorem TK.upd {H : Hp} {a : Addr} {o : HO} (h : ∀ xs, H a ≠ some (.tup xs)) : TK H (upd H a o) := fun b xs e => by
  rw [upd_ne (fun q => h xs (by rw [← q]; exact e))]
  exact e
theorem Same.new {H : Hp} {p : Addr} {o : HO} (h : H p = none) : Same H (upd H p o) := fun a u e => by
  rw [upd_ne (ne_of_none e h)]
  exact e
mutual
theorem Fz.tk {H H' : Hp} (t : TK H H') : ∀ {k : NestedKey} {v : V}, Fz H v k → Fz H' v k
  | .none, _, h => by cases h; exact .non
  | .num i, _, h => by cases h; exact .int i
  | .text x, _, h => by cases h; exact .str x
  | .tup ks, _, h => by
    cases h with
    | tup e r => exact .tup (t _ _ e) (FzA.tk t r)
theorem FzA.tk {H H' : Hp} (t : TK H H') : ∀ {ks : List NestedKey} {vs : List V}, FzA H vs ks → FzA H' vs ks
  | [], _, h => by cases h; exact .nil
  | k :: ks, _, h => by
    cases h with
    | cons a r => exact .cons (Fz.tk t a) (FzA.tk t r)
end
theorem Fz.sm {H H' : Hp} {k : NestedKey} {v : V} (h : Fz H v k) (t : Same H H') : Fz H' v k := h.tk (.of_same t)
theorem FzA.sm {H H' : Hp} {ks : List NestedKey} {vs : List V} (h : FzA H vs ks) (t : Same H H') : FzA H' vs ks := h.tk (.of_same t)
theorem FzA.length {H : Hp} : ∀ {ks : List NestedKey} {vs : List V}, FzA H vs ks → vs.length = ks.length
  | [], _, h => by cases h; rfl
  | _ :: ks, _, h => by
    cases h with
    | cons a r => rw [List.length_cons, List.length_cons, FzA.length r]
theorem FzA.get {H : Hp} : ∀ {ks : List NestedKey} {vs : List V} {i : Nat} {v : V}, FzA H vs ks → vs[i]? = some v → ∃ k, ks[i]? = some k ∧ Fz H v k
  | [], _, i, v, h, e => by cases h; simp at e
  | k :: ks, _, i, v, h, e => by
    cases h with
    | cons a r =>
      cases i with
      | zero => simp at e; subst e; exact ⟨k, rfl, a⟩
      | succ i =>
        obtain ⟨k', e1, e2⟩ := FzA.get (i := i) (v := v) r (by simpa using e)
        exact ⟨k', by simpa using e1, e2⟩
theorem FzA.getK {H : Hp} : ∀ {ks : List NestedKey} {vs : List V} {i : Nat} {k : NestedKey}, FzA H vs ks → ks[i]? = some k → ∃ v, vs[i]? = some v ∧ Fz H v k
  | [], _, i, v, h, e => by simp at e
  | k :: ks, _, i, k', h, e => by
    cases h with
    | cons a r =>
      cases i with
      | zero => simp at e; subst e; exact ⟨_, rfl, a⟩
      | succ i =>
        obtain ⟨v', e1, e2⟩ := FzA.getK (i := i) (k := k') r (by simpa using e)
        exact ⟨v', by simpa using e1, e2⟩
theorem FzA.append {H : Hp} : ∀ {ks js : List NestedKey} {vs ws : List V}, FzA H vs ks → FzA H ws js → FzA H (vs ++ ws) (ks ++ js)
  | [], _, _, _, h, g => by cases h; exact g
  | _ :: _, _, _, _, h, g => by
    cases h with
    | cons a r => exact .cons a (FzA.append r g)
theorem FzA.one {H : Hp} {v : V} {k : NestedKey} (h : Fz H v k) : FzA H [v] [k] := .cons h .nil
theorem FzA.drop {H : Hp} : ∀ {ks : List NestedKey} {vs : List V} (n : Nat), FzA H vs ks → FzA H (vs.drop n) (ks.drop n)
  | _, _, 0, h => h
  | [], _, n + 1, h => by cases h; exact .nil
  | _ :: _, _, n + 1, h => by
    cases h with
    | cons a r => exact FzA.drop n r
theorem FzA.take {H : Hp} : ∀ {ks : List NestedKey} {vs : List V} (n : Nat), FzA H vs ks → FzA H (vs.take n) (ks.take n)
  | _, _, 0, h => .nil
  | [], _, n + 1, h => by cases h; exact .nil
  | _ :: _, _, n + 1, h => by
    cases h with
    | cons a r => exact .cons a (FzA.take n r)
theorem FzA.cut {H : Hp} {ks : List NestedKey} {vs : List V} (h : FzA H vs ks) (lo hi : Option Int) :
    FzA H (cutV vs lo hi) ((ks.drop (HT.sIx ks.length 0 lo)).take (HT.sIx ks.length ks.length hi - HT.sIx ks.length 0 lo)) := by
  unfold cutV
  rw [h.length]
  exact (h.drop _).take _
theorem FzA.of_get {H : Hp} : ∀ {ks : List NestedKey} {vs : List V}, vs.length = ks.length → (∀ (i : Nat) v k, vs[i]? = some v → ks[i]? = some k → Fz H v k) → FzA H vs ks
  | [], [], _, _ => .nil
  | [], _ :: _, h, _ => by simp at h
  | _ :: _, [], h, _ => by simp at h
  | k :: ks, v :: vs, h, f => .cons (f 0 v k rfl rfl) (FzA.of_get (by simpa using h) fun i v' k' e1 e2 => f (i + 1) v' k' (by simpa using e1) (by simpa using e2))
mutual
theorem Fz.inj {H : Hp} : ∀ {k j : NestedKey} {v : V}, Fz H v k → Fz H v j → k = j
  | .none, _, _, h, g => by cases h; cases g; rfl
  | .num i, _, _, h, g => by cases h; cases g; rfl
  | .text x, _, _, h, g => by cases h; cases g; rfl
  | .tup ks, _, _, h, g => by
    cases h with
    | tup e r =>
      cases g with
      | tup e' r' =>
        rw [e] at e'
        cases e'
        rw [FzA.inj r r']
theorem FzA.inj {H : Hp} : ∀ {ks js : List NestedKey} {vs : List V}, FzA H vs ks → FzA H vs js → ks = js
  | [], _, _, h, g => by cases h; cases g; rfl
  | _ :: _, _, _, h, g => by
    cases h with
    | cons a r =>
      cases g with
      | cons a' r' => rw [Fz.inj a a', FzA.inj r r']
end
/-! ints, texts -/
theorem Fz.int_inv {H : Hp} {v : V} {i : Int} (h : Fz H v (.num i)) : v = .int i := by cases h; rfl
theorem Fz.str_inv {H : Hp} {v : V} {x : Str} (h : Fz H v (.text x)) : v = .str x := by cases h; rfl
theorem Fz.tup_inv {H : Hp} {v : V} {ks : List NestedKey} (h : Fz H v (.tup ks)) : ∃ a xs, v = .ref a ∧ H a = some (.tup xs) ∧ FzA H xs ks := by
  cases h with
  | tup e r => exact ⟨_, _, rfl, e, r⟩
def ik (l : List Int) : List NestedKey := l.map .num
theorem FzA.ints {H : Hp} : ∀ {l : List Int} {vs : List V}, FzA H vs (ik l) → vs = l.map V.int
  | [], _, h => by cases h; rfl
  | i :: l, _, h => by
    cases h with
    | cons a r => rw [a.int_inv, FzA.ints r]; rfl
theorem FzA.of_ints {H : Hp} : ∀ (l : List Int), FzA H (l.map V.int) (ik l)
  | [] => .nil
  | i :: l => .cons (.int i) (FzA.of_ints l)

/-! to PyData, to the heap -/
mutual
theorem Fz.dp {K : PySem.W.Frag} {H : Hp} : ∀ {k : NestedKey} {v : V}, Fz H v k → Dp K H v k.data
  | .none, _, h => by cases h; exact .non
  | .num i, _, h => by cases h; exact .int i
  | .text x, _, h => by cases h; exact .str x
  | .tup ks, _, h => by
    cases h with
    | tup e r => exact .tup (SqT.of e) (FzA.dp r)
theorem FzA.dp {K : PySem.W.Frag} {H : Hp} : ∀ {ks : List NestedKey} {vs : List V}, FzA H vs ks → DpAll K H vs (NestedKey.datas ks)
  | [], _, h => by cases h; exact .nil
  | _ :: _, _, h => by
    cases h with
    | cons a r => exact .cons (Fz.dp a) (FzA.dp r)
end
mutual
theorem Fz.is {X : Cx} {pins : List (Addr × Obj)} {σ : St} {H : Hp} {s : Shared} (I : Inv X pins σ H s) : ∀ {k : NestedKey} {v : V} {u : Value}, Fz H v k → RelV v u → NestedIs s.heap k u
  | .none, _, _, h, r => by cases h; cases r; exact .none
  | .num i, _, _, h, r => by cases h; obtain ⟨t, rfl⟩ := r; exact .int i t
  | .text x, _, _, h, r => by cases h; obtain ⟨t, rfl⟩ := r; exact .text x t
  | .tup ks, _, _, h, r => by
    cases h with
    | tup e q =>
      cases r
      obtain ⟨its, rv, ⟨o, ho, hc, n, hd⟩, _⟩ := I.tuple (SqT.of e)
      exact .tup ho hc hd (FzA.is I q (by simpa using rv))
theorem FzA.is {X : Cx} {pins : List (Addr × Obj)} {σ : St} {H : Hp} {s : Shared} (I : Inv X pins σ H s) : ∀ {ks : List NestedKey} {vs : List V} {us : List Value}, FzA H vs ks → Vals vs us → NestedAll s.heap ks us
  | [], _, _, h, r => by cases h; cases r; exact .nil
  | _ :: _, _, _, h, r => by
    cases h with
    | cons a q =>
      cases r with
      | cons r1 r2 => exact .cons (Fz.is I a r1) (FzA.is I q r2)
end
theorem eq_key (a b : NestedKey) : NestedKey.beq a b = decide (a = b) := (NestedKey.decide_eq a b).symm
theorem depth_le {ks : List NestedKey} {k : NestedKey} (h : k ∈ ks) : k.depth ≤ NestedKey.depthAll ks := by
  induction ks with
  | nil => exact nomatch h
  | cons x xs ih =>
    rw [NestedKey.depthAll]
    rcases List.mem_cons.mp h with e | e
    · rw [e]; exact Nat.le_max_left _ _
    · exact Nat.le_trans (ih e) (Nat.le_max_right _ _)
theorem depthAll_le {ks : List NestedKey} {n : Nat} (h : ∀ k ∈ ks, k.depth ≤ n) : NestedKey.depthAll ks ≤ n := by
  induction ks with
  | nil => simp [NestedKey.depthAll]
  | cons x xs ih =>
    rw [NestedKey.depthAll]
    exact Nat.max_le.mpr ⟨h x (List.mem_cons_self ..), ih fun k hk => h k (List.mem_cons_of_mem _ hk)⟩

/-! == and in, of such data -/
section
variable {A : Around} {s : Shared}
theorem isTuple_of {h : Heap} {a : Addr} {o : Obj} {vs : Array Value} {n : Nat} (h1 : h.get? a = some o) (h2 : o.cls = .type "tuple") (h3 : o.data = .seq vs n) : h.IsTuple a vs := ⟨o, h1, h2, n, h3⟩
theorem rc_tup {xs ys : List NestedKey} {a b : Value} (ra : NestedIs s.heap (.tup xs) a) (rb : NestedIs s.heap (.tup ys) b) (hu : A.units + 16 < cLine) (hx : (NestedKey.tup xs).depth ≤ 8) : SeqAt.RcAt A s a b (decide (NestedKey.tup xs = .tup ys)) := by
  have hd : NestedKey.depthAll xs + 1 ≤ 8 := by simpa [NestedKey.depth] using hx
  cases ra with
  | @tup l o vs n _ h1 h2 h3 h4 =>
    cases rb with
    | @tup l' o' vs' n' _ k1 k2 k3 k4 =>
      have n1 : vs.size = xs.length := by simpa using NestedAll.length _ _ h4
      have n2 : vs'.size = ys.length := by simpa using NestedAll.length _ _ k4
      have e : ((List.range (min vs.size vs'.size)).all (keyEqAt xs ys) && vs.size == vs'.size) = decide (NestedKey.tup xs = .tup ys) := by
        rw [n1, n2, beqAll_eq, NestedKey.decide_eq, NestedKey.beq]
      rw [← e]
      refine SeqAt.RcAt.tuples (isTuple_of h1 h2 h3) (isTuple_of k1 k2 k3) (by omega) fun j j1 j2 => ?_
      have := eqAt_keys xs ys A.in1 s vs.toList vs'.toList h4 k4 (by show A.units + 1 + _ < _; have := Nat.min_le_left (NestedKey.depthAll xs) (NestedKey.depthAll ys); omega) j (by simpa using j1) (by simpa using j2)
      simpa using this
theorem rcne_tup {xs ys : List NestedKey} {a b : Value} (ra : NestedIs s.heap (.tup xs) a) (rb : NestedIs s.heap (.tup ys) b) (hu : A.units + 16 < cLine) (hx : (NestedKey.tup xs).depth ≤ 8) : SeqAt.RcNeAt A s a b (!decide (NestedKey.tup xs = .tup ys)) := by
  have hd : NestedKey.depthAll xs + 1 ≤ 8 := by simpa [NestedKey.depth] using hx
  cases ra with
  | @tup l o vs n _ h1 h2 h3 h4 =>
    cases rb with
    | @tup l' o' vs' n' _ k1 k2 k3 k4 =>
      have n1 : vs.size = xs.length := by simpa using NestedAll.length _ _ h4
      have n2 : vs'.size = ys.length := by simpa using NestedAll.length _ _ k4
      have e : ((List.range (min vs.size vs'.size)).all (keyEqAt xs ys) && vs.size == vs'.size) = decide (NestedKey.tup xs = .tup ys) := by
        rw [n1, n2, beqAll_eq, NestedKey.decide_eq, NestedKey.beq]
      rw [← e]
      refine SeqAt.RcNeAt.tuples (isTuple_of h1 h2 h3) (isTuple_of k1 k2 k3) (by omega) fun j j1 j2 => ?_
      have := eqAt_keys xs ys A.in1 s vs.toList vs'.toList h4 k4 (by show A.units + 1 + _ < _; have := Nat.min_le_left (NestedKey.depthAll xs) (NestedKey.depthAll ys); omega) j (by simpa using j1) (by simpa using j2)
      simpa using this
/-- whether the value is that key -/
noncomputable def isK (h : Heap) (k : NestedKey) (y : Value) : Bool := @decide (NestedIs h k y) (Classical.propDecidable _)
theorem isK_eq {h : Heap} {k j : NestedKey} {y : Value} (r : NestedIs h j y) : isK h k y = decide (j = k) := by
  unfold isK
  by_cases e : j = k
  · subst e
    rw [decide_eq_true rfl]
    exact @decide_eq_true _ (Classical.propDecidable _) r
  · rw [decide_eq_false e]
    exact @decide_eq_false _ (Classical.propDecidable _) fun q => e (NestedIs.inj _ _ _ r q)
theorem any_isK {h : Heap} {k : NestedKey} : ∀ {ks : List NestedKey} {vs : List Value}, NestedAll h ks vs → vs.any (isK h k) = decide (k ∈ ks)
  | [], _, r => by cases r; simp
  | j :: ks, _, r => by
    cases r with
    | cons a q =>
      rw [List.any_cons, isK_eq a, any_isK q]
      by_cases e : j = k
      · subst e; simp
      · have e2 : ¬ k = j := fun z => e z.symm
        simp [e, e2]
theorem all_isK {k : NestedKey} {x : Value} {ks : List NestedKey} {items : Array Value} (hr : NestedAll s.heap ks items.toList) (hx : NestedIs s.heap k x) (hu : A.units + 16 < cLine) (hk : k.depth ≤ 8) : ∀ y, y ∈ items → SeqAt.EqAt A.in1 s y x (isK s.heap k y) := by
  intro y hy
  obtain ⟨i, hi, e⟩ := List.mem_iff_getElem.mp (show y ∈ items.toList by simpa using hy)
  have go : ∀ {ks : List NestedKey} {vs : List Value}, NestedAll s.heap ks vs → ∀ y ∈ vs, ∃ j, NestedIs s.heap j y := by
    intro ks vs r
    induction vs generalizing ks with
    | nil => intro y hy; exact nomatch hy
    | cons v vs ih =>
      intro y hy
      cases r with
      | cons a q =>
        rcases List.mem_cons.mp hy with e | e
        · subst e; exact ⟨_, a⟩
        · exact ih q y e
  obtain ⟨j, rj⟩ := go hr y (by simpa using hy)
  rw [isK_eq rj, ← eq_key]
  exact eqAt_key j k A.in1 s y x rj hx (by show A.units + 1 + _ < _; have := Nat.min_le_right j.depth k.depth; omega)
end

section
variable {X : Cx}
/-- tuples by their keys -/
def rEqT : R2 := fun x y H Q => ∃ ks js, Fz H x (.tup ks) ∧ Fz H y (.tup js) ∧ (NestedKey.tup ks).depth ≤ 8 ∧ Q (.bl (decide (ks = js))) H
def rNeT : R2 := fun x y H Q => ∃ ks js, Fz H x (.tup ks) ∧ Fz H y (.tup js) ∧ (NestedKey.tup ks).depth ≤ 8 ∧ Q (.bl (!decide (ks = js))) H
theorem tup_dec (ks js : List NestedKey) : decide (NestedKey.tup ks = .tup js) = decide (ks = js) := by
  by_cases h : ks = js
  · subst h; simp
  · rw [decide_eq_false h, decide_eq_false fun q => h (by injection q)]
theorem op_eqT (hu : X.A.units + 64 < cLine) : OpR X (compareOp .Eq) rEqT := by
  intro pins s σ H x y v u Q I rx ry h
  obtain ⟨ks, js, hk, hj, hd, q⟩ := h
  exact rc_tup (Fz.is I hk rx) (Fz.is I hj ry) (by omega) hd X.prog X.w _ _ ⟨.bl _, H, I, by rw [tup_dec] <;> rfl, q⟩
theorem op_neT (hu : X.A.units + 64 < cLine) : OpR X (compareOp .NotEq) rNeT := by
  intro pins s σ H x y v u Q I rx ry h
  obtain ⟨ks, js, hk, hj, hd, q⟩ := h
  exact rcne_tup (Fz.is I hk rx) (Fz.is I hj ry) (by omega) hd X.prog X.w _ _ ⟨.bl _, H, I, by rw [tup_dec] <;> rfl, q⟩
/-- a list against one without items -/
def rEqN (K : PySem.W.Frag) : R2 := fun x y H Q => ∃ a b xs, x = .ref a ∧ y = .ref b ∧ SqL K H a xs ∧ SqL K H b [] ∧ Q (.bl xs.isEmpty) H
def rNeN (K : PySem.W.Frag) : R2 := fun x y H Q => ∃ a b xs, x = .ref a ∧ y = .ref b ∧ SqL K H a xs ∧ SqL K H b [] ∧ Q (.bl (!xs.isEmpty)) H
theorem op_eqN (hu : X.A.units + 64 < cLine) : OpR X (compareOp .Eq) (rEqN X.K) := by
  intro pins s σ H x y v u Q I rx ry h
  obtain ⟨a, b, xs, rfl, rfl, ha, hb, q⟩ := h
  cases rx
  cases ry
  obtain ⟨its, r1, ⟨o, n, ho, hc, hdn, hd⟩, _⟩ := I.list ha
  obtain ⟨its2, r2, ⟨o2, n2, ho2, hc2, hdn2, hd2⟩, _⟩ := I.list hb
  cases r2
  have hl : s.heap.IsList a its.toArray := ⟨o, ho, hc, n, hd⟩
  have hl2 : s.heap.IsList b ([] : List Value).toArray := ⟨o2, ho2, hc2, n2, hd2⟩
  cases xs with
  | nil =>
    cases r1
    exact SeqAt.RcAt.lists (e := fun _ => true) hl hl2 rfl (by omega) (fun j h1 _ => absurd h1 (by simp)) X.prog X.w _ _ ⟨.bl true, H, I, rfl, q⟩
  | cons z zs =>
    cases r1 with
    | cons r r1 => exact SeqAt.RcAt.lists_lengths hl hl2 (by simp) (by omega) X.prog X.w _ _ ⟨.bl false, H, I, rfl, q⟩
theorem op_neN (hu : X.A.units + 64 < cLine) : OpR X (compareOp .NotEq) (rNeN X.K) := by
  intro pins s σ H x y v u Q I rx ry h
  obtain ⟨a, b, xs, rfl, rfl, ha, hb, q⟩ := h
  cases rx
  cases ry
  obtain ⟨its, r1, ⟨o, n, ho, hc, hdn, hd⟩, _⟩ := I.list ha
  obtain ⟨its2, r2, ⟨o2, n2, ho2, hc2, hdn2, hd2⟩, _⟩ := I.list hb
  cases r2
  have hl : s.heap.IsList a its.toArray := ⟨o, ho, hc, n, hd⟩
  have hl2 : s.heap.IsList b ([] : List Value).toArray := ⟨o2, ho2, hc2, n2, hd2⟩
  cases xs with
  | nil =>
    cases r1
    exact SeqAt.RcNeAt.lists (e := fun _ => true) hl hl2 rfl (by omega) (fun j h1 _ => absurd h1 (by simp)) X.prog X.w _ _ ⟨.bl false, H, I, rfl, q⟩
  | cons z zs =>
    cases r1 with
    | cons r r1 => exact SeqAt.RcNeAt.lists_lengths hl hl2 (by simp) (by omega) X.prog X.w _ _ ⟨.bl true, H, I, rfl, q⟩
/-- x in xs, a list | a tuple of such data -/
def rInK (K : PySem.W.Frag) : R2 := fun x y H Q => ∃ k ks a xs, Fz H x k ∧ k.depth ≤ 8 ∧ y = .ref a ∧ (SqL K H a xs ∨ SqT K H a xs) ∧ FzA H xs ks ∧ Q (.bl (decide (k ∈ ks))) H
def rNotInK (K : PySem.W.Frag) : R2 := fun x y H Q => ∃ k ks a xs, Fz H x k ∧ k.depth ≤ 8 ∧ y = .ref a ∧ SqL K H a xs ∧ FzA H xs ks ∧ Q (.bl (!decide (k ∈ ks))) H
theorem op_inK (hu : X.A.units + 64 < cLine) : OpR X (compareOp .In) (rInK X.K) := by
  intro pins s σ H x y v u Q I rx ry h
  obtain ⟨k, ks, a, xs, hk, hd, rfl, ha, hs, q⟩ := h
  cases ry
  have hx := Fz.is I hk rx
  rcases ha with ha | ha
  · obtain ⟨its, r1, ⟨o, n, ho, hc, hdn, hdt⟩, _⟩ := I.list ha
    have hr : NestedAll s.heap ks its.toArray.toList := by simpa using FzA.is I hs r1
    refine SeqAt.in_listAt (isK s.heap k) ⟨o, ho, hc, n, hdt⟩ (all_isK hr hx (by omega) hd) ⟨.bl _, H, I, ?_, q⟩
    show Value.bool _ = Value.bool _
    rw [← Array.any_toList, any_isK hr]
  · obtain ⟨its, r1, ht, _⟩ := I.tuple ha
    have hr : NestedAll s.heap ks its.toArray.toList := by simpa using FzA.is I hs r1
    refine SeqAt.in_tupleAt (isK s.heap k) ht (all_isK hr hx (by omega) hd) ⟨.bl _, H, I, ?_, q⟩
    show Value.bool _ = Value.bool _
    rw [← Array.any_toList, any_isK hr]
theorem op_notInK (hu : X.A.units + 64 < cLine) : OpR X (compareOp .NotIn) (rNotInK X.K) := by
  intro pins s σ H x y v u Q I rx ry h
  obtain ⟨k, ks, a, xs, hk, hd, rfl, ha, hs, q⟩ := h
  cases ry
  have hx := Fz.is I hk rx
  obtain ⟨its, r1, ⟨o, n, ho, hc, hdn, hdt⟩, _⟩ := I.list ha
  have hr : NestedAll s.heap ks its.toArray.toList := by simpa using FzA.is I hs r1
  refine SeqAt.notIn_listAt (isK s.heap k) ⟨o, ho, hc, n, hdt⟩ (all_isK hr hx (by omega) hd) ⟨.bl _, H, I, ?_, q⟩
  show Value.bool _ = Value.bool _
  rw [← Array.any_toList, any_isK hr]
end
end K34
namespace K34
open PySem PySem.Spec L2

/-! ### dicts whose keys are nested tuples -/
abbrev Ent := NestedKey × Addr × V
abbrev NT : List Ent → List (NestedKey × Addr × Value) → Prop := Paired fun p q => p.1 = q.1 ∧ p.2.1 = q.2.1 ∧ RelV p.2.2 q.2.2
def ndOk (P : Program) (w : World) (d : Addr) (ts : List Ent) (h : Heap) : Prop :=
  ts.length ≤ sizeLine ∧ (d == sysModules) = false ∧ ∃ xs : List (NestedKey × Addr × Value), NT ts xs ∧
    ∃ o es ep, h.get? d = some o ∧ o.ExactDict ∧ o.data = .dict es ep ∧ es.toList = xs.map (entryOfKey (nestedKind P w)) ∧ (xs.map (·.1)).Nodup
def ND (P : Program) (w : World) (d : Addr) (ts : List Ent) : HO := .ext (ndOk P w d ts)
theorem nd_stay {P : Program} {w : World} {d : Addr} {ts : List Ent} {h1 h2 : Heap} (x : ndOk P w d ts h1) (k : ∀ o, h1.get? d = some o → h2.get? d = some o) : ndOk P w d ts h2 := by
  obtain ⟨z, y, xs, r, o, es, ep, e, c⟩ := x
  exact ⟨z, y, xs, r, o, es, ep, k _ e, c⟩
theorem nd_obj {P : Program} {w : World} {H : Hp} {h : Heap} {d : Addr} {ts : List Ent} (x : ndOk P w d ts h) : ObjOk P w H h d (ND P w d ts) :=
  ⟨x, let ⟨_, _, _, _, o, _, _, e, _⟩ := x; ⟨o, e⟩, fun _ _ => nd_stay⟩
def pr (t : Ent) : NestedKey × V := (t.1, t.2.2)
/-- at d stands a dict with the keys and values kvs, in the order of insertion -/
def DN (P : Program) (w : World) (H : Hp) (d : Addr) (kvs : List (NestedKey × V)) : Prop :=
  ∃ ts : List Ent, (H d = some (ND P w d ts) ∨ ∃ o, H d = some (.frz o (ND P w d ts))) ∧ ts.map pr = kvs ∧ ∀ t ∈ ts, Fz H (.ref t.2.1) t.1 ∧ t.1.depth ≤ 8
/-- .. that may be written -/
def DW (P : Program) (w : World) (H : Hp) (d : Addr) (kvs : List (NestedKey × V)) : Prop :=
  ∃ ts : List Ent, H d = some (ND P w d ts) ∧ ts.map pr = kvs ∧ ∀ t ∈ ts, Fz H (.ref t.2.1) t.1 ∧ t.1.depth ≤ 8
theorem DW.dn {P : Program} {w : World} {H : Hp} {d : Addr} {kvs : List (NestedKey × V)} (h : DW P w H d kvs) : DN P w H d kvs := let ⟨ts, a, b, c⟩ := h; ⟨ts, .inl a, b, c⟩
theorem DW.ho {P : Program} {w : World} {H : Hp} {d : Addr} {kvs : List (NestedKey × V)} (h : DW P w H d kvs) : ∃ φ, H d = some (.ext φ) := let ⟨_, a, _, _⟩ := h; ⟨_, a⟩
theorem DW.keep {P : Program} {w : World} {H H' : Hp} {d : Addr} {kvs : List (NestedKey × V)} (h : DW P w H d kvs) (e : H' d = H d) (t : TK H H') : DW P w H' d kvs := by
  obtain ⟨ts, a, b, c⟩ := h
  exact ⟨ts, by rw [e]; exact a, b, fun x hx => ⟨(c x hx).1.tk t, (c x hx).2⟩⟩
theorem DW.sm {P : Program} {w : World} {H H' : Hp} {d : Addr} {kvs : List (NestedKey × V)} (h : DW P w H d kvs) (t : Same H H') : DW P w H' d kvs := by
  obtain ⟨ts, a, b, c⟩ := h
  exact ⟨ts, t _ _ a, b, fun x hx => ⟨(c x hx).1.sm t, (c x hx).2⟩⟩
theorem DW.keys {P : Program} {w : World} {H : Hp} {d : Addr} {kvs : List (NestedKey × V)} (h : DW P w H d kvs) : ∀ p ∈ kvs, p.1.depth ≤ 8 := by
  obtain ⟨ts, a, rfl, c⟩ := h
  intro p hp
  obtain ⟨t, ht, rfl⟩ := List.mem_map.mp hp
  exact (c t ht).2

theorem NT.val {ts : List Ent} {xs : List (NestedKey × Addr × Value)} (r : NT ts xs) (k : NestedKey) : RelO (valV (ts.map pr) k) (valueAt (pairsH xs) k) := by
  refine KV.val (vs := pairsH xs) ?_ k
  unfold KV pairsH
  induction r with
  | nil => exact .nil
  | cons h t ih => exact .cons ⟨h.1, h.2.2⟩ ih
theorem NT.length {ts : List Ent} {xs : List (NestedKey × Addr × Value)} (r : NT ts xs) : ts.length = xs.length := Paired.length r
/-- put, in its place or at the end -/
def putE (ts : List Ent) (k : NestedKey) (b : Addr) (v : V) : List Ent :=
  if (valV (ts.map pr) k).isSome = true then ts.map (fun t => if t.1 = k then (t.1, t.2.1, v) else t) else ts ++ [(k, b, v)]
theorem NT.put {ts : List Ent} {xs : List (NestedKey × Addr × Value)} (r : NT ts xs) (k : NestedKey) (b : Addr) {v : V} {u : Value} (rv : RelV v u) : NT (putE ts k b v) (storedH xs k b u) := by
  have e : (valV (ts.map pr) k).isSome = (atKey xs k).isSome := by
    have h1 := (r.val k).isSome_eq
    rw [valueAt_pairsH, Option.isSome_map] at h1
    exact h1
  unfold putE storedH
  rw [e]
  by_cases q : (atKey xs k).isSome = true
  · rw [if_pos q, if_pos q]
    clear e q
    unfold NT at r ⊢
    induction r with
    | nil => exact .nil
    | @cons p q ps qs h t ih =>
      rw [List.map_cons, List.map_cons]
      refine .cons ?_ ih
      obtain ⟨h1, h2, h3⟩ := h
      unfold putAt
      by_cases z : p.1 = k
      · rw [if_pos z, if_pos (h1.symm.trans z)]; exact ⟨h1, h2, rv⟩
      · rw [if_neg z, if_neg (fun y => z (h1.trans y))]; exact ⟨h1, h2, h3⟩
  · rw [if_neg q, if_neg q]
    exact Paired.snoc r ⟨rfl, rfl, rv⟩
theorem NT.drop {ts : List Ent} {xs : List (NestedKey × Addr × Value)} (r : NT ts xs) (k : NestedKey) : NT (ts.filter fun t => decide (t.1 ≠ k)) (withoutH xs k) := by
  unfold NT at r ⊢
  unfold withoutH
  induction r with
  | nil => exact .nil
  | @cons p q ps qs h t ih =>
    obtain ⟨h1, h2, h3⟩ := h
    rw [List.filter_cons, List.filter_cons]
    by_cases e : p.1 = k
    · have a : ¬ decide (p.1 ≠ k) = true := by simp [e]
      have b : ¬ decide (q.1 ≠ k) = true := by simp [h1.symm.trans e]
      rw [if_neg a, if_neg b]; exact ih
    · have e' : ¬ q.1 = k := fun z => e (h1.trans z)
      have a : decide (p.1 ≠ k) = true := by simp [e]
      have b : decide (q.1 ≠ k) = true := by simp [e']
      rw [if_pos a, if_pos b]; exact .cons ⟨h1, h2, h3⟩ ih
theorem pr_put (ts : List Ent) (k : NestedKey) (b : Addr) (v : V) : (putE ts k b v).map pr = putK (ts.map pr) k v := by
  unfold putE putK
  rw [valV_any]
  split
  · rw [List.map_map, List.map_map]
    refine List.map_congr_left fun t _ => ?_
    show pr (if t.1 = k then (t.1, t.2.1, v) else t) = if (pr t).1 = k then ((pr t).1, v) else pr t
    by_cases h : t.1 = k
    · rw [if_pos h, if_pos (show (pr t).1 = k from h)]; rfl
    · rw [if_neg h, if_neg (show ¬ (pr t).1 = k from h)]
  · rw [List.map_append]; rfl
theorem pr_drop (ts : List Ent) (k : NestedKey) : (ts.filter fun t => decide (t.1 ≠ k)).map pr = dropK (ts.map pr) k := by
  unfold dropK
  rw [List.filter_map]
  rfl
theorem mem_putE {ts : List Ent} {k : NestedKey} {b : Addr} {v : V} {t : Ent} (h : t ∈ putE ts k b v) : (∃ t' ∈ ts, t.1 = t'.1 ∧ t.2.1 = t'.2.1) ∨ (t.1 = k ∧ t.2.1 = b) := by
  unfold putE at h
  split at h
  · obtain ⟨t', h1, h2⟩ := List.mem_map.mp h
    refine .inl ⟨t', h1, ?_⟩
    split at h2 <;> (subst h2; exact ⟨rfl, rfl⟩)
  · rcases List.mem_append.mp h with q | q
    · exact .inl ⟨t, q, rfl, rfl⟩
    · have e := List.mem_singleton.mp q
      subst e
      exact .inr ⟨rfl, rfl⟩
theorem length_putE (ts : List Ent) (k : NestedKey) (b : Addr) (v : V) : (putE ts k b v).length ≤ ts.length + 1 := by
  unfold putE
  split
  · rw [List.length_map]; omega
  · rw [List.length_append]; exact Nat.le_refl _

section
variable {X : Cx} {pins : List (Addr × Obj)} {σ : L2.St} {H : Hp} {s : Shared} {d a : Addr} {k : NestedKey} {v : V} {u r : Value} {A : Around} {E : Value → Shared → Prop} {kvs : List (NestedKey × V)}
theorem nk_is (I : Inv X pins σ H s) (h : Fz H (.ref a) k) (hd : k.depth ≤ 8) : (nestedKind X.prog X.w).is s.heap k a := ⟨Fz.is I h rfl, hd⟩
theorem nk_room {A : Around} (hu : A.units + 64 < cLine) : (nestedKind X.prog X.w).room A.in1 := by show A.units + 1 + 8 < cLine; omega
theorem ndh_of {ts : List Ent} (I : Inv X pins σ H s) (hd : H d = some (ND X.prog X.w d ts) ∨ ∃ o, H d = some (.frz o (ND X.prog X.w d ts))) (hk : ∀ t ∈ ts, Fz H (.ref t.2.1) t.1 ∧ t.1.depth ≤ 8) :
    (d == sysModules) = false ∧ ts.length ≤ sizeLine ∧ ∃ xs, NT ts xs ∧ s.heap.DictOfH (nestedKind X.prog X.w) d xs := by
  have ok : ObjOk X.prog X.w H s.heap d (ND X.prog X.w d ts) := by
    rcases hd with q | ⟨o, q⟩
    · exact I.hok d _ q
    · exact (I.hok d _ q).2
  obtain ⟨⟨z, y, xs, r, o, es, ep, h1, h2, h3, h4, h5⟩, _⟩ := ok
  refine ⟨y, z, xs, r, o, es, ep, h1, h2, h3, h4, fun x hx => ?_, h5⟩
  have all : ∀ {l : List Ent} {m : List (NestedKey × Addr × Value)}, NT l m → (∀ t ∈ l, Fz H (.ref t.2.1) t.1 ∧ t.1.depth ≤ 8) → ∀ x ∈ m, (nestedKind X.prog X.w).is s.heap x.1 x.2.1 := by
    intro l m q hl
    induction q with
    | nil => intro x hx; exact nomatch hx
    | @cons p q ps qs hq t ih =>
      intro x hx
      rcases List.mem_cons.mp hx with e | hx
      · subst e
        have := hl p (List.mem_cons_self ..)
        rw [← hq.1, ← hq.2.1]
        exact nk_is I this.1 this.2
      · exact ih (fun t ht => hl t (List.mem_cons_of_mem _ ht)) x hx
  exact all r hk x hx
theorem Inv.ndh (I : Inv X pins σ H s) (h : DN X.prog X.w H d kvs) : (d == sysModules) = false ∧ kvs.length ≤ sizeLine ∧ ∃ ts xs, (H d = some (ND X.prog X.w d ts) ∨ ∃ o, H d = some (.frz o (ND X.prog X.w d ts))) ∧ ts.map pr = kvs ∧ NT ts xs ∧ s.heap.DictOfH (nestedKind X.prog X.w) d xs := by
  obtain ⟨ts, hd, e, hk⟩ := h
  obtain ⟨y, z, xs, r, dd⟩ := ndh_of I hd hk
  exact ⟨y, by rw [← e, List.length_map]; exact z, ts, xs, hd, e, r, dd⟩
theorem NT.nodup {ts : List Ent} {xs : List (NestedKey × Addr × Value)} (r : NT ts xs) : ts.map (·.1) = xs.map (·.1) := by
  unfold NT at r
  induction r with
  | nil => rfl
  | cons h t ih => rw [List.map_cons, List.map_cons, ih, h.1]
theorem nd_getItem {Q : Value → Shared → Prop} (hu : A.units + 64 < cLine) (I : Inv X pins σ H s) (g : DN X.prog X.w H d kvs) (hk : Fz H (.ref a) k) (hd : k.depth ≤ 8) (hv : valV kvs k = some v) (h : ∀ w' s', Inv X pins σ H s' → RelV v w' → Q w' s') :
    wpAny (model X.prog X.w) A (getItem (.ref d) (.ref a)) Q E s := by
  obtain ⟨hs, hz, ts, xs, _, rfl, r, dd⟩ := Inv.ndh I g
  obtain ⟨w', hw, rw'⟩ := RelO.some_of (v := v) (o := valueAt (pairsH xs) k) (by rw [← hv]; exact r.val k)
  exact getItem_keyed (nk_room hu) (nk_is I hk hd) ⟨xs, dd, rfl⟩ hw (h w' _ (I.tok _) rw')
theorem nd_in {Q : Value → Shared → Prop} (hu : A.units + 64 < cLine) (I : Inv X pins σ H s) (g : DN X.prog X.w H d kvs) (hk : Fz H (.ref a) k) (hd : k.depth ≤ 8) (h : ∀ s', Inv X pins σ H s' → Q (.bool (valV kvs k).isSome) s') :
    wpAny (model X.prog X.w) A (compareOp .In (.ref a) (.ref d)) Q E s := by
  obtain ⟨hs, hz, ts, xs, _, rfl, r, dd⟩ := Inv.ndh I g
  refine in_keyed (nk_room hu) (nk_is I hk hd) hs ⟨xs, dd, rfl⟩ ?_
  rw [← (r.val k).isSome_eq]
  exact h _ (I.tok _)
theorem nd_get2 {dv : V} {Q : Value → Shared → Prop} (hu : A.units + 64 < cLine) (I : Inv X pins σ H s) (g : DN X.prog X.w H d kvs) (hk : Fz H (.ref a) k) (hd : k.depth ≤ 8) (rd : RelV dv r) (h : ∀ w' s', Inv X pins σ H s' → RelV ((valV kvs k).getD dv) w' → Q w' s') :
    wpAny (model X.prog X.w) A (call (.builtin "dict.get") [.ref d, .ref a, r]) Q E s := by
  obtain ⟨hs, hz, ts, xs, _, rfl, q, dd⟩ := Inv.ndh I g
  exact getOr_keyed (nk_room hu) (nk_is I hk hd) hs ⟨xs, dd, rfl⟩ (h _ _ (I.tok _) ((q.val k).getD rd))
theorem tk_ext {φ : Heap → Prop} {o : HO} (e : H d = some (.ext φ)) : TK H (upd H d o) := TK.upd fun xs q => by
  rw [e] at q
  exact HO.noConfusion (Option.some.inj q)
theorem tk_put {ts : List Ent} {P : Program} {w : World} (o : HO) (e : H d = some (ND P w d ts)) : TK H (upd H d o) := tk_ext e
/-- the object of such a dict behind a change -/
theorem nd_new {ts : List Ent} {xs : List (NestedKey × Addr × Value)} {P : Program} {w : World} {h' : Heap} {H' : Hp} (hl : ts.length ≤ sizeLine) (hs : (d == sysModules) = false) (r : NT ts xs) (dd : h'.DictOfH (nestedKind P w) d xs) : ObjOk P w H' h' d (ND P w d ts) := by
  obtain ⟨o, es, ep, h1, h2, h3, h4, _, h5⟩ := dd
  exact nd_obj ⟨hl, hs, xs, r, o, es, ep, h1, h2, h3, h4, h5⟩
theorem nd_setItem {Q : Unit → Shared → Prop} (hu : A.units + 64 < cLine) (I : Inv X pins σ H s) (g : DW X.prog X.w H d kvs) (hk : Fz H (.ref a) k) (hd : k.depth ≤ 8) (rv : RelV v r) (hl : kvs.length < sizeLine)
    (h : ∀ s' H', Inv X pins σ H' s' → DW X.prog X.w H' d (putK kvs k v) → (∀ b, b ≠ d → H' b = H b) → Q () s') : wpAny (model X.prog X.w) A (setItem (.ref d) (.ref a) r) Q E s := by
  obtain ⟨ts, e, rfl, c⟩ := g
  obtain ⟨hs, hz, xs, q, dd⟩ := ndh_of I (.inl e) c
  refine wpAny_setItem_heap (hsz := by rw [← q.length]; exact hz) (nk_room hu) (nk_is I hk hd) dd fun h' dd' sb => ?_
  have he : ∃ q, h'.get? d = some q := let ⟨q, _, _, hq, _⟩ := dd'; ⟨q, hq⟩
  rw [List.length_map] at hl
  refine h _ (upd H d (ND X.prog X.w d (putE ts k a v))) (d_write I (by rw [e]; exact True.intro) sb he (nd_new (by have := length_putE ts k a v; omega) hs (q.put k a rv) dd')) ⟨_, upd_same, pr_put ts k a v, fun t ht => ?_⟩ fun b hb => upd_ne hb
  rcases mem_putE ht with ⟨t', h1, h2, h3⟩ | ⟨h1, h2⟩
  · rw [h2, h3]
    exact ⟨(c t' h1).1.tk (tk_put _ e), (c t' h1).2⟩
  · rw [h1, h2]
    exact ⟨hk.tk (tk_put _ e), hd⟩
theorem nd_pop {Q : Value → Shared → Prop} (hu : A.units + 64 < cLine) (I : Inv X pins σ H s) (g : DW X.prog X.w H d kvs) (hk : Fz H (.ref a) k) (hd : k.depth ≤ 8) (hv : valV kvs k = some v)
    (h : ∀ w' s' H', Inv X pins σ H' s' → RelV v w' → DW X.prog X.w H' d (dropK kvs k) → (∀ b, b ≠ d → H' b = H b) → Q w' s') : wpAny (model X.prog X.w) A (call (.builtin "dict.pop") [.ref d, .ref a]) Q E s := by
  obtain ⟨ts, e, rfl, c⟩ := g
  obtain ⟨hs, hz, xs, q, dd⟩ := ndh_of I (.inl e) c
  obtain ⟨w', hw, rw'⟩ := RelO.some_of (v := v) (o := valueAt (pairsH xs) k) (by rw [← hv]; exact q.val k)
  rw [valueAt_pairsH] at hw
  obtain ⟨p, hp, rfl⟩ := Option.map_eq_some_iff.mp hw
  refine call_pop_heap (more := []) (hsz := by rw [← q.length]; exact hz) (.inl rfl) (F.args_dict_pop_2 _ _) (nk_room hu) (nk_is I hk hd) hs dd hp fun h' dd' sb => ?_
  have he : ∃ q, h'.get? d = some q := let ⟨q, _, _, hq, _⟩ := dd'; ⟨q, hq⟩
  refine h _ _ (upd H d (ND X.prog X.w d (ts.filter fun t => decide (t.1 ≠ k)))) (d_write I (by rw [e]; exact True.intro) sb he (nd_new (Nat.le_trans (List.length_filter_le ..) hz) hs (q.drop k) dd')) rw' ⟨_, upd_same, pr_drop ts k, fun t ht => ?_⟩ fun b hb => upd_ne hb
  have := c t (List.mem_filter.mp ht).1
  exact ⟨this.1.tk (tk_put _ e), this.2⟩
end

/-! ### readings and rules -/
theorem dn_typeIs {X : Cx} {pins : List (Addr × Obj)} {σ : L2.St} {H : Hp} {s : Shared} {d : Addr} {kvs : List (NestedKey × V)} (I : Inv X pins σ H s) (g : DN X.prog X.w H d kvs) : s.TypeIs (.ref d) "dict" := by
  obtain ⟨_, _, _, xs, _, _, _, dd⟩ := Inv.ndh I g
  exact dd.typeIs
theorem dn_noDict {X : Cx} {pins : List (Addr × Obj)} {σ : L2.St} {H : Hp} {s : Shared} {d : Addr} {kvs : List (NestedKey × V)} (I : Inv X pins σ H s) (g : DN X.prog X.w H d kvs) :
    ∀ b, Value.ref d = .ref b → ∃ ob, s.heap.get? b = some ob ∧ ob.dict = none := fun b q => by
  cases q
  obtain ⟨_, _, _, xs, _, _, _, ob, _, _, h1, h2, _⟩ := Inv.ndh I g
  exact ⟨ob, h1, h2.2.1⟩
/-- a key of such a dict: a tuple -/
def KY (H : Hp) (y : V) (k : NestedKey) : Prop := Fz H y k ∧ k.depth ≤ 8 ∧ ∃ ks, k = .tup ks
theorem KY.ref {H : Hp} {y : V} {k : NestedKey} (h : KY H y k) : ∃ a, y = .ref a := by
  obtain ⟨h1, _, ks, rfl⟩ := h
  obtain ⟨a, _, e, _, _⟩ := h1.tup_inv
  exact ⟨a, e⟩
theorem KY.of {H : Hp} {y : V} {ks : List NestedKey} (h : Fz H y (.tup ks)) (hd : (NestedKey.tup ks).depth ≤ 8) : KY H y (.tup ks) := ⟨h, hd, ks, rfl⟩
section
variable (P : Program) (w : World)
/-- d[y] -/
def tNGet (td ty : TE) : TE := fun σ H Q => td σ H fun x H1 => ty σ H1 fun y H2 => ∃ d kvs k v, x = .ref d ∧ DN P w H2 d kvs ∧ KY H2 y k ∧ valV kvs k = some v ∧ Q v H2
def tNIn (ty td : TE) : TE := fun σ H Q => ty σ H fun y H1 => td σ H1 fun x H2 => ∃ d kvs k, x = .ref d ∧ DN P w H2 d kvs ∧ KY H2 y k ∧ Q (.bl (valV kvs k).isSome) H2
def sNPut (td ty tv : TE) : TS := fun D σ H => tv σ H fun v H1 => td σ H1 fun x H2 => ty σ H2 fun y H3 => ∃ d kvs k, x = .ref d ∧ DW P w H3 d kvs ∧ KY H3 y k ∧ kvs.length < sizeLine ∧
  ∀ H4, DW P w H4 d (putK kvs k v) → (∀ b, b ≠ d → H4 b = H3 b) → D.nx σ H4
def tNGet2 (td ty tx : TE) : TE := fun σ H Q => td σ H fun x H1 => ∃ d, x = .ref d ∧ (∃ kvs, DN P w H1 d kvs) ∧ ty σ H1 fun y H2 => tx σ H2 fun z H3 => ∃ kvs k, DN P w H3 d kvs ∧ KY H3 y k ∧ Q ((valV kvs k).getD z) H3
def tNPop (td ty : TE) : TE := fun σ H Q => td σ H fun x H1 => ∃ d, x = .ref d ∧ (∃ kvs, DN P w H1 d kvs) ∧ ty σ H1 fun y H2 => ∃ kvs k v, DW P w H2 d kvs ∧ KY H2 y k ∧ valV kvs k = some v ∧
  ∀ H4, DW P w H4 d (dropK kvs k) → (∀ b, b ≠ d → H4 b = H2 b) → Q v H4
/-- {} -/
def tNNew : TE := fun _ H Q => ∀ p H', H p = none → DW P w H' p [] → (∀ b, b ≠ p → H' b = H b) → Q (.ref p) H'
end
section
variable {X : Cx} {o i e f value : Expr} {pos pos' tpos apos cpos : Pos} {td ty tv tx : TE}
theorem pe_nget (hu : X.A.units + 64 < cLine) (ho : PE X o td) (hi : PE X i ty) (hs : NoSl i) : PE X (.Subscript o i pos) (tNGet X.prog X.w td ty) := by
  refine ⟨fun pins s σ H Q I h => ?_⟩
  refine subD_of PySem.F.slot_dict_getitem.lookup hs (thn (ho.run pins s σ H _ I h) fun u s1 ⟨x, H1, I1, rx, q1⟩ => thn (hi.run pins s1 σ H1 _ I1 q1) fun iv s2 ⟨y, H2, I2, ry, d, kvs, k, v, ex, g, hk, hv, q2⟩ => ?_)
  subst ex
  obtain rfl : u = Value.ref d := rx
  obtain ⟨a, rfl⟩ := hk.ref
  obtain rfl : iv = Value.ref a := ry
  exact ⟨dn_typeIs I2 g, nd_getItem hu I2 g hk.1 hk.2.1 hv fun w' s3 I3 rw' => ⟨v, H2, I3, rw', q2⟩⟩
theorem pc_nin (hu : X.A.units + 64 < cLine) (hi : PE X i ty) (ho : PE X o td) : PC X .In i o (tNIn X.prog X.w ty td) := by
  refine ⟨fun pins s σ H Q I h => ?_⟩
  refine thn (hi.run pins s σ H _ I h) fun iv s1 ⟨y, H1, I1, ry, q1⟩ => thn (ho.run pins s1 σ H1 _ I1 q1) fun u s2 ⟨x, H2, I2, rx, d, kvs, k, ex, g, hk, q2⟩ => ?_
  subst ex
  obtain rfl : u = Value.ref d := rx
  obtain ⟨a, rfl⟩ := hk.ref
  obtain rfl : iv = Value.ref a := ry
  exact nd_in hu I2 g hk.1 hk.2.1 fun s3 I3 => ⟨.bl _, H2, I3, rfl, q2⟩
theorem ps_nput (hu : X.A.units + 64 < cLine) (ho : PE X o td) (hi : PE X i ty) (hv : PE X value tv) (hs : swapsWith value (some (.Subscript o i pos')) pos.line X.env = pure false) :
    PS X (.Assign [.Subscript o i pos'] value pos) (sNPut X.prog X.w td ty tv) := by
  refine ⟨fun pins s σ H D I h => ?_⟩
  refine wpAny_Assign_Subscript (thn (hv.run pins s σ H _ I h) fun r s1 ⟨v, H1, I1, rv, q1⟩ => thn (ho.run pins s1 σ H1 _ I1 q1) fun u s2 ⟨x, H2, I2, rx, q2⟩ => thn (hi.run pins s2 σ H2 _ I2 q2) fun iv s3 ⟨y, H3, I3, ry, d, kvs, k, ex, g, hk, hl, q3⟩ => ?_) hs
  subst ex
  obtain rfl : u = Value.ref d := rx
  obtain ⟨a, rfl⟩ := hk.ref
  obtain rfl : iv = Value.ref a := ry
  exact nd_setItem hu I3 g hk.1 hk.2.1 rv hl fun s4 H4 I4 g4 kp => ⟨σ, H4, I4, q3 H4 g4 kp⟩
theorem pe_nget2 (hu : X.A.units + 64 < cLine) (ho : PE X o td) (he : PE X e ty) (hf : PE X f tx) (m : M2 X o "get" apos e f cpos) : PE X (.Call (.Attribute o "get" apos) [e, f] [] cpos) (tNGet2 X.prog X.w td ty tx) := by
  refine ⟨fun pins s σ H Q I h => ?_⟩
  refine wpAny_Call_method m.base m.few m.line PySem.F.plainAttrs_dict PySem.F.slot_dict_get PySem.F.type_dict_get (thn (ho.run pins s σ H _ I h) fun u s1 ⟨x, H1, I1, rx, d, ex, ⟨kv0, g0⟩, q1⟩ => ?_)
  subst ex
  obtain rfl : u = Value.ref d := rx
  refine ⟨dn_typeIs I1 g0, dn_noDict I1 g0, ?_⟩
  rw [m.trees]
  refine Calls.callWith_builtin rfl (Calls.evalArgs_plain (Calls.spliced_cons (thn (he.run pins s1 σ H1 _ I1 q1) fun iv s2 ⟨y, H2, I2, ry, q2⟩ =>
    Calls.spliced_cons (thn (hf.run pins s2 σ H2 _ I2 q2) fun fv s3 ⟨z, H3, I3, rz, kvs, k, g, hk, q3⟩ => Calls.spliced_nil ?_))))
  obtain ⟨a, rfl⟩ := hk.ref
  obtain rfl : iv = Value.ref a := ry
  exact nd_get2 hu I3 g hk.1 hk.2.1 rz fun w' s4 I4 rw' => ⟨_, H3, I4, rw', q3⟩
theorem pe_npop (hu : X.A.units + 64 < cLine) (ho : PE X o td) (he : PE X e ty) (m : M1 X o "pop" apos e cpos) : PE X (.Call (.Attribute o "pop" apos) [e] [] cpos) (tNPop X.prog X.w td ty) := by
  refine ⟨fun pins s σ H Q I h => ?_⟩
  refine wpAny_Call_method m.base m.few m.line PySem.F.plainAttrs_dict PySem.F.slot_dict_pop PySem.F.type_dict_pop (thn (ho.run pins s σ H _ I h) fun u s1 ⟨x, H1, I1, rx, d, ex, ⟨kv0, g0⟩, q1⟩ => ?_)
  subst ex
  obtain rfl : u = Value.ref d := rx
  refine ⟨dn_typeIs I1 g0, dn_noDict I1 g0, ?_⟩
  rw [m.trees]
  refine Calls.callWith_builtin rfl (Calls.evalArgs_plain (Calls.spliced_cons (thn (he.run pins s1 σ H1 _ I1 q1) fun iv s2 ⟨y, H2, I2, ry, kvs, k, v, g, hk, hv, q2⟩ => Calls.spliced_nil ?_)))
  obtain ⟨a, rfl⟩ := hk.ref
  obtain rfl : iv = Value.ref a := ry
  exact nd_pop hu I2 g hk.1 hk.2.1 hv fun w' s3 H4 I3 rw' g4 kp => ⟨v, H4, I3, rw', q2 H4 g4 kp⟩
theorem nd_empty {P : Program} {w : World} {H : Hp} (h : Heap) (hb : sysModules < h.objs.size) : ObjOk P w H (h.push { cls := .type "dict", data := .dict #[] }) h.objs.size (ND P w h.objs.size []) :=
  nd_obj ⟨Nat.zero_le _, beq_eq_false_iff_ne.mpr (Ne.symm (Nat.ne_of_lt hb)), [], .nil, _, #[], 0, Heap.get?_push_size _ rfl, ⟨rfl, rfl, rfl⟩, rfl, rfl, List.nodup_nil⟩
theorem pe_nnew : PE X (.Dict [] [] pos) (tNNew X.prog X.w) := ⟨fun pins s σ H Q I h =>
  wpAny_Dict_empty ⟨.ref s.heap.objs.size, _, I.laid (a := s.heap.objs.size) (o := ND X.prog X.w s.heap.objs.size []) (t' := s.toks) (fun _ _ q => Heap.get?_push_of_some _ q) (Nat.le_refl _) (nd_empty s.heap I.big), rfl,
    h _ _ (I.hok.fresh (Nat.le_refl _)) ⟨[], upd_same, rfl, fun _ hx => nomatch hx⟩ fun b hb => upd_ne hb⟩⟩
end
/-! ### list(d), for k in d (locked) -/
section
variable {X : Cx}
theorem vals_refsN : ∀ bs : List Addr, Vals (bs.map V.ref) (bs.map Value.ref)
  | [] => .nil
  | _ :: r => .cons rfl (vals_refsN r)
theorem fza_keys {H : Hp} : ∀ {ts : List Ent}, (∀ t ∈ ts, Fz H (.ref t.2.1) t.1 ∧ t.1.depth ≤ 8) → FzA H (ts.map fun t => V.ref t.2.1) (ts.map (·.1))
  | [], _ => .nil
  | t :: ts, h => .cons (h t (List.mem_cons_self ..)).1 (fza_keys fun x hx => h x (List.mem_cons_of_mem _ hx))
theorem nt_addr {ts : List Ent} {ks : List (NestedKey × Addr × Value)} (r : NT ts ks) : (ks.map fun x => x.2.1) = ts.map fun t => t.2.1 := by
  unfold NT at r
  induction r with
  | nil => rfl
  | cons h t ih => rw [List.map_cons, List.map_cons, ih, h.2.1]
theorem call_list_dN (hc : X.calm = true) : CallR X (.type "list") (fun xs H Q => ∃ d kvs, xs = [V.ref d] ∧ DN X.prog X.w H d kvs ∧ ∀ p vs, H p = none → FzA H vs (kvs.map (·.1)) → Q (.ref p) (upd H p (.lst vs))) := by
  intro pins s σ H xs us Q I r h
  obtain ⟨d, kvs, rfl, g, q⟩ := h
  obtain ⟨u, rfl, rx⟩ := r.one
  cases rx
  obtain ⟨ts, hd, rfl, c⟩ := g
  obtain ⟨hs, hz, ks, pr', o, es, ep, ho, hx, hdt, he, _, hn⟩ := ndh_of I hd c
  have l1 : es.size = ks.length := size_of_entries he
  have l2 : ts.length = ks.length := Paired.length pr'
  refine PySem.W.kdl_call (kdl_raw hs hx hdt) (I.ok.hd hc) ho (by omega) fun h' tk acc' c' kp e it => ?_
  have ea : acc'.toList = ks.map fun x => Value.ref x.2.1 := by
    have hl : acc'.toList.length = ks.length := by rw [Array.length_toList, it.1]; exact l1
    apply List.ext_getElem?
    intro j
    rw [List.getElem?_map]
    cases hj : acc'.toList[j]? with
    | none =>
      have h1 := List.getElem?_eq_none_iff.mp hj
      rw [List.getElem?_eq_none (by omega)]
      all_goals rfl
    | some v =>
      obtain ⟨en, hen, hv⟩ := it.2 j v (by rw [← Array.getElem?_toList]; exact hj)
      have qe := entry_at he j
      rw [hen] at qe
      cases hb : ks[j]? with
      | none =>
        rw [hb] at qe
        exact nomatch (show some en = none from qe)
      | some b =>
        rw [hb] at qe
        have e2 : en = entryOfKey (nestedKind X.prog X.w) b := Option.some.inj qe
        rw [hv, e2]
        all_goals rfl
  have ek : (ks.map fun x => x.2.1) = ts.map fun t => t.2.1 := nt_addr pr'
  have eb : acc'.toList = (ts.map fun t => t.2.1).map Value.ref := by rw [ea, ← ek, List.map_map]; all_goals rfl
  have rv : Vals ((ts.map fun t => t.2.1).map V.ref) acc'.toList := by rw [eb]; exact vals_refsN _
  have ev : (ts.map fun t => t.2.1).map V.ref = ts.map fun t => V.ref t.2.1 := by rw [List.map_map]; all_goals rfl
  have hz2 : ((ts.map fun t => t.2.1).map V.ref).length ≤ sizeLine := by rw [List.length_map, List.length_map]; omega
  refine ⟨.ref s.heap.objs.size, _, I.laid (t' := tk) (o := .lst ((ts.map fun t => t.2.1).map V.ref)) kp (Nat.le_refl _) ?_, rfl, q _ _ (I.hok.fresh (Nat.le_refl _)) ?_⟩
  · exact ⟨hz2, acc'.toList, c', rv, by rw [Array.toArray_toList]; exact e⟩
  · rw [ev, List.map_map]
    exact fza_keys c
end
/-- the keys of the locked dict at d: each its own tuple -/
def Itn (P : Program) (w : World) (d : Addr) (o : Obj) (ts : List Ent) : It :=
  ⟨fun i H => H d = some (.frz o (ND P w d ts)) ∧ i < ts.length, fun i H x H' => H' = H ∧ ∃ t, ts[i]? = some t ∧ x = .ref t.2.1, fun i H => H d = some (.frz o (ND P w d ts)) ∧ ts.length ≤ i⟩
theorem Inv.frzN {X : Cx} {pins : List (Addr × Obj)} {σ : L2.St} {H : Hp} {s : Shared} {d : Addr} {o : Obj} {ts : List Ent} (I : Inv X pins σ H s) (h : H d = some (.frz o (ND X.prog X.w d ts))) :
    (d == sysModules) = false ∧ s.heap.get? d = some o ∧ o.ExactDict ∧ ∃ (es : Array DictEntry) (ep : Nat), o.data = .dict es ep ∧ es.size = ts.length ∧
      ∀ (i : Nat) (t : Ent), ts[i]? = some t → ∃ (en : DictEntry), es[i]? = some en ∧ en.key = .ref t.2.1 := by
  obtain ⟨hd, ⟨z, hs, xs, pr', o', es, ep, ho, hx, hdt, he, _⟩, _⟩ := I.hok d _ h
  rw [hd] at ho
  cases ho
  refine ⟨hs, hd, hx, es, ep, hdt, ?_, fun i t e => ?_⟩
  · have l1 : es.size = xs.length := size_of_entries he
    have l2 : ts.length = xs.length := Paired.length pr'
    omega
  · obtain ⟨b, hb, e1, e2, _⟩ := paired_get pr' e
    have q := entry_at he i
    rw [hb] at q
    exact ⟨_, q, by rw [e2] <;> rfl⟩
theorem turn_keysN {P : Program} {w : World} {K : PySem.W.Frag} {tg : Expr} {d : Addr} {o : Obj} {es : Array DictEntry} {ep : Nat} {ts : List Ent} (it : Addr) (hod : o.data = .dict es ep) : Turn P w K tg (Itn P w d o ts) [it] it (fun i h => h.IsKeyIter it d i ts.length ep) where
  mem := by simp
  obj := fun i h st b hb => by
    have e : b = it := by simpa using hb
    subst e
    obtain ⟨oi, e, c, dd⟩ := st
    exact ⟨oi, e, fun v z => by rw [dd] at z; cases z⟩
  keep := fun i h h' st k => st.at fun oi e => k it (by simp) oi e
  item := by
    intro X hP hw hK hc i pins s σ H E I hf st hg
    subst hP hw hK
    obtain ⟨hd, hi⟩ := hg
    obtain ⟨f0, f1, f2, f3, f4, f5⟩ := hf it (by simp)
    obtain ⟨hs, hgd, hx, es', ep', hdt, hsz, ent⟩ := Inv.frzN I hd
    obtain ⟨rfl, rfl⟩ := dict_ep hod hdt
    obtain ⟨t, hkv⟩ : ∃ p, ts[i]? = some p := ⟨ts[i], List.getElem?_eq_getElem hi⟩
    obtain ⟨en, hen, hkey⟩ := ent i t hkv
    refine next_key_item st hgd hdt hsz hen fun h' st' sb => ?_
    have I1 : Inv X pins σ H { s with heap := h' } := I.turned (t' := s.toks) (fun b ob hb e => (sb.2 b hb).trans e) f0 f1 f3 f4 f5
    obtain ⟨oi, e, c, dd⟩ := id st'
    exact ⟨en.key, rfl, go_of (s := { s with heap := h' }) e c dd (by decide) ⟨.ref t.2.1, H, I1, hkey, ⟨rfl, t, hkv, rfl⟩, st', fun b hb => (hf b hb).1⟩⟩
  done := by
    intro X hP hw hK hc i pins s σ H E I hf st hg
    subst hP hw hK
    obtain ⟨hd, hi⟩ := hg
    obtain ⟨f0, f1, f2, f3, f4, f5⟩ := hf it (by simp)
    obtain ⟨hs, hgd, hx, es', ep', hdt, hsz, ent⟩ := Inv.frzN I hd
    obtain ⟨rfl, rfl⟩ := dict_ep hod hdt
    exact next_key_end (I.ok.hd hc) st hgd hdt hsz hi fun h' eb => ⟨rfl, I.turned (t' := s.toks) (fun b ob hb e => eb b ob hb e) f0 f1 f3 f4 f5⟩
  self := fun A i s Q E st h => wpAny_pyIter_keyiter st h
def iNKeys (P : Program) (w : World) (td : TE) : TI := fun σ H R => td σ H fun x H1 => ∃ d o ts, x = .ref d ∧ H1 d = some (.frz o (ND P w d ts)) ∧ R (Itn P w d o ts) H1
theorem pi_nkeys {X : Cx} {tg e : Expr} {td : TE} (he : PE X e td) : PI X tg e (iNKeys X.prog X.w td) := by
  refine ⟨fun pins s σ H R I h => ?_⟩
  refine thn (he.run pins s σ H _ I h) fun u s1 ⟨x, H1, I1, rx, d, o, ts, ex, hd, q⟩ => ?_
  subst ex
  obtain rfl : u = Value.ref d := rx
  obtain ⟨hs, hgd, hx, es, ep, hdt, hsz, ent⟩ := Inv.frzN I1 hd
  refine iter_keys hs hgd hx hdt (pi_one (tk := s1.toks) I1 _ (turn_keysN _ hdt) ⟨_, Heap.get?_push_size _ rfl, rfl, ?_⟩ q)
  rw [hsz] <;> rfl
end K34
namespace K34
open PySem PySem.Spec L2
open PySem.W (keyToks keyToksAll alike alikeAll EachIs SortsAt KeepsBut sortVals)
open PyProof.Rows (listOrd itemOrd)

/-! ### sorted(.., key=f): keys (int, int, data), alike where the second ints are -/
mutual
theorem depth_data : ∀ a : NestedKey, a.data.depth = a.depth
  | .none => by simp [NestedKey.data, PyData.depth, NestedKey.depth]
  | .num _ => by simp [NestedKey.data, PyData.depth, NestedKey.depth]
  | .text _ => by simp [NestedKey.data, PyData.depth, NestedKey.depth]
  | .tup ks => by simp only [NestedKey.data, PyData.depth, NestedKey.depth]; rw [depth_datas ks]
theorem depth_datas : ∀ ks : List NestedKey, PyData.depthAll (NestedKey.datas ks) = NestedKey.depthAll ks
  | [] => by simp [NestedKey.datas, PyData.depthAll, NestedKey.depthAll]
  | k :: ks => by simp [NestedKey.datas, PyData.depthAll, NestedKey.depthAll, depth_data k, depth_datas ks]
end
abbrev SK := Int × Int × NestedKey
def skK (x : SK) : NestedKey := .tup [.num x.1, .num x.2.1, x.2.2]
def skT (x : SK) : List (Int ⊕ List Nat) := keyToks (skK x).data
def skLe {β : Type} (f : β → SK) : β → β → Bool := PySem.W.sortLe (listOrd itemOrd) false fun b => skT (f b)
def SkAlike (l : List SK) : Prop := ∀ x ∈ l, ∀ y ∈ l, x.2.1 = y.2.1 → alike x.2.2.data y.2.2.data = true
theorem skData (x : SK) : (skK x).data = .tuple [.int x.1, .int x.2.1, x.2.2.data] := by simp [skK, NestedKey.data, NestedKey.datas]
mutual
theorem reads_inj {h : Heap} : ∀ (k j : NestedKey) (v : Value) (as bs : List Addr), Reads h v k.data as → Reads h v j.data bs → k = j
  | .none, j, v, _, _, r, q => by
    cases r
    cases j with
    | none => rfl
    | num _ => cases q
    | text _ => cases q
    | tup _ => cases q
  | .num i, j, v, _, _, r, q => by
    cases r
    cases j with
    | none => cases q
    | num _ => cases q; rfl
    | text _ => cases q
    | tup _ => cases q
  | .text i, j, v, _, _, r, q => by
    cases r
    cases j with
    | none => cases q
    | num _ => cases q
    | text _ => cases q; rfl
    | tup _ => cases q
  | .tup ks, j, v, _, _, r, q => by
    cases r with
    | tuple h1 h2 h3 h4 =>
      cases j with
      | none => cases q
      | num _ => cases q
      | text _ => cases q
      | tup js =>
        cases q with
        | tuple k1 k2 k3 k4 =>
          rw [h1] at k1
          cases k1
          rw [h3] at k3
          cases k3
          rw [reads_injs ks js _ _ _ h4 k4]
theorem reads_injs {h : Heap} : ∀ (ks js : List NestedKey) (vs : List Value) (as bs : List Addr), ReadsAll h vs (NestedKey.datas ks) as → ReadsAll h vs (NestedKey.datas js) bs → ks = js
  | [], js, vs, _, _, r, q => by
    cases r
    cases js with
    | nil => rfl
    | cons _ _ => cases q
  | k :: ks, js, vs, _, _, r, q => by
    cases r with
    | cons r1 r2 =>
      cases js with
      | nil => cases q
      | cons j js =>
        cases q with
        | cons q1 q2 => rw [reads_inj k j _ _ _ r1 q1, reads_injs ks js _ _ _ r2 q2]
end
noncomputable def skKind (h : Heap) (l : List SK) : PyProof.Rows.KeyKind where
  toKeyOrd := listOrd itemOrd
  keyOf v := open Classical in if q : ∃ x, x ∈ l ∧ ∃ as, Reads h v (skK x).data as then some (skT q.choose) else none
  dflt := ([] : List (Int ⊕ List Nat))
theorem skKind_some {h : Heap} {l : List SK} {v : Value} {x : SK} {as : List Addr} (hx : x ∈ l) (r : Reads h v (skK x).data as) : (skKind h l).keyOf v = some (skT x) := by
  have q : ∃ x, x ∈ l ∧ ∃ as, Reads h v (skK x).data as := ⟨x, hx, as, r⟩
  have e : (skKind h l).keyOf v = some (skT q.choose) := by
    show (open Classical in if q : ∃ x, x ∈ l ∧ ∃ as, Reads h v (skK x).data as then some (skT q.choose) else none) = _
    rw [dif_pos q]
  obtain ⟨h1, as', h2⟩ := q.choose_spec
  have e2 := reads_inj _ _ _ _ _ h2 r
  rw [e]
  unfold skT
  rw [e2]
theorem skKind_inv {h : Heap} {l : List SK} {v : Value} {k : List (Int ⊕ List Nat)} (e : (skKind h l).keyOf v = some k) : ∃ x as, x ∈ l ∧ Reads h v (skK x).data as ∧ k = skT x := by
  by_cases q : ∃ x, x ∈ l ∧ ∃ as, Reads h v (skK x).data as
  · have e' : (skKind h l).keyOf v = some (skT q.choose) := by
      show (open Classical in if q : ∃ x, x ∈ l ∧ ∃ as, Reads h v (skK x).data as then some (skT q.choose) else none) = _
      rw [dif_pos q]
    obtain ⟨h1, as', h2⟩ := q.choose_spec
    rw [e'] at e
    exact ⟨_, as', h1, h2, (Option.some.inj e).symm⟩
  · have e' : (skKind h l).keyOf v = none := by
      show (open Classical in if q : ∃ x, x ∈ l ∧ ∃ as, Reads h v (skK x).data as then some (skT q.choose) else none) = _
      rw [dif_neg q]
      rfl
    rw [e'] at e
    exact absurd e (by simp)
theorem sorts_sk {prog : Program} {w : World} {A : Around} {s : Shared} {vs : List Value} {l : List SK} (e : EachIs (fun v x => ∃ as, Reads s.heap v (skK x).data as) vs l) (hal : SkAlike l) (hu : A.units + 16 < cLine) (hd : ∀ x ∈ l, x.2.2.depth ≤ 6) :
    SortsAt prog w A s (skKind s.heap l) vs := by
  refine ⟨fun v hv => ?_, ?_⟩
  · obtain ⟨x, hx, as, r⟩ := e.left v hv
    exact ⟨_, skKind_some hx r⟩
  · refine ⟨PyProof.Rows.tuples' true, ?_, fun h2 E Q hq => ?_⟩
    · intro E x y a b Q ha hb hq
      obtain ⟨p, as, hp, ra, rfl⟩ := skKind_inv ha
      obtain ⟨q, as', hq', rb, rfl⟩ := skKind_inv hb
      have hq2 : Q (PyProof.Rows.lexLt itemOrd (keyToksAll [.int p.1, .int p.2.1, p.2.2.data]) (keyToksAll [.int q.1, .int q.2.1, q.2.2.data])) s := by
        have z : Q (PySem.W.dataLt (skK p).data (skK q).data) s := hq
        rw [skData, skData, PySem.W.dataLt_tuple] at z
        exact z
      rw [skData] at ra rb
      have dp := hd p hp
      rw [← depth_data] at dp
      cases ra with
      | @tuple l1 o xs n _ _ h1 h2 h3 h4 =>
        cases rb with
        | @tuple l2 o' xs' n' _ _ k1 k2 k3 k4 =>
          have n1 : xs.size = 3 := by simpa using SeqAt.ReadsAll.length _ _ _ h4
          have n2 : xs'.size = 3 := by simpa using SeqAt.ReadsAll.length _ _ _ k4
          refine PySem.W.kat_lt h1 h3 k1 k3 ?_
          have e0 : decide (xs.size < xs'.size) = false := by rw [n1, n2]; rfl
          rw [e0]
          clear h1 h2 h3 k1 k2 k3 n1 n2 e0 ha hb hq
          revert h4 k4
          generalize xs.toList = us
          generalize xs'.toList = ws
          intro h4 k4
          cases h4 with
          | cons a1 h4 =>
            cases h4 with
            | cons a2 h4 =>
              cases k4 with
              | cons b1 k4 =>
                cases k4 with
                | cons b2 k4 =>
                  rw [List.zip_cons_cons, List.zip_cons_cons]
                  refine PySem.W.kat_cons (PySem.W.eqAt_alike _ _ A s _ _ _ _ a1 b1 (by simp [alike]) (by simp only [PyData.depth]; omega) prog w _ _ ?_)
                  cases hx : PyData.eqv (.int p.1) (.int q.1) with
                  | false =>
                    rw [PySem.W.dataLt_all_no (by simp [alike]) hx] at hq2
                    exact PySem.W.kat_no (PySem.W.oneLt_alike (fun _ t => by simp) a1 b1 (by simp [alike]) (by simp) (by simp only [PyData.depth]; omega) hq2)
                  | true =>
                    rw [PySem.W.dataLt_all_yes (by simp [alike]) hx] at hq2
                    refine PySem.W.kat_yes ?_
                    refine PySem.W.kat_cons (PySem.W.eqAt_alike _ _ A s _ _ _ _ a2 b2 (by simp [alike]) (by simp only [PyData.depth]; omega) prog w _ _ ?_)
                    cases hx2 : PyData.eqv (.int p.2.1) (.int q.2.1) with
                    | false =>
                      rw [PySem.W.dataLt_all_no (by simp [alike]) hx2] at hq2
                      exact PySem.W.kat_no (PySem.W.oneLt_alike (fun _ t => by simp) a2 b2 (by simp [alike]) (by simp) (by simp only [PyData.depth]; omega) hq2)
                    | true =>
                      rw [PySem.W.dataLt_all_yes (by simp [alike]) hx2] at hq2
                      refine PySem.W.kat_yes ?_
                      have ei : p.2.1 = q.2.1 := by simpa [PyData.eqv] using hx2
                      refine PySem.W.katLex_alike [p.2.2.data] [q.2.2.data] 2 _ _ _ _ h4 k4 ?_ ?_ (fun _ hi => absurd hi (by decide)) (by simp) hq2
                      · simp only [alikeAll, Bool.and_true]
                        exact hal p hp q hq' ei
                      · simp only [PyData.depthAll]
                        omega
    · have e2 : EachIs (fun v d => ∃ as, Reads s.heap v d as) vs (l.map fun x => (skK x).data) := PySem.W.each_map (R := fun v d => ∃ as, Reads s.heap v d as) (fun x => (skK x).data) e
      obtain ⟨fs, t1, t2, t3⟩ := PySem.W.each_katTups e2 fun d hd => by
        obtain ⟨x, _, rfl⟩ := List.mem_map.mp hd
        exact ⟨_, _, skData x⟩
      refine PySem.W.kat_kind (T := .type "int") t1 (by omega) (fun f hf => ?_) (beq_self_eq_true _) hq
      obtain ⟨x, r, as, m1, m2⟩ := t3 f hf
      obtain ⟨z, _, ez⟩ := List.mem_map.mp m1
      rw [skData] at ez
      injection ez with ez
      injection ez with ez1 ez2
      subst ez1
      exact PySem.W.looks_reads m2
end K34
namespace K34
open PySem PySem.Spec L2
open PySem.W (keyToks keyToksAll alike alikeAll EachIs SortsAt KeepsBut sortVals)
open PyProof.Rows (listOrd itemOrd seqObj)

/-- collect(src) gives the values us, whatever is called; all is kept -/
def Col (prog : Program) (w : World) (s : Shared) (src : Addr) (us : List Value) : Prop :=
  ∀ (A : Around) (E : Value → Shared → Prop) (Q : List Value → Shared → Prop), A.handled = none → (∀ h' tk, (∀ b o, s.heap.get? b = some o → h'.get? b = some o) → Q us { s with heap := h', toks := tk }) → wpAny (model prog w) A (collect (.ref src)) Q E s
theorem col_seq {prog : Program} {w : World} {s : Shared} {l : Addr} {vs : List Value} {o : Obj} {n : Nat} {T : String} (hT : T = "list" ∨ T = "tuple") (ho : s.heap.get? l = some o) (hc : o.cls = .type T) (hd : o.data = .seq vs.toArray n) (hsz : vs.length ≤ sizeLine) : Col prog w s l vs := by
  intro A E Q _ h
  unfold collect
  refine wpAny_bind (wpAny_runValue (codeAny_builtin PyProof.Rows.entry_proto_collect' ?_))
  show wpAny _ _ (do again (.builtin "list.__iadd__" ⟨[← newList [], .ref l], []⟩)) _ _ s
  refine wpAny_bind (wpAny_newList (wpAny_pure ⟨Code.quiet_builtin _ (by decide +kernel), codeAny_builtin PyProof.Rows.entry_list_iadd' ?_⟩) (Nat.zero_le _))
  show wpAny _ _ (Builtin.List.listExtendWith (.ref s.heap.objs.size) (.ref l) (.ref s.heap.objs.size)) _ _ { s with heap := s.heap.push (seqObj "list" #[] 0) }
  unfold Builtin.List.listExtendWith
  have ho' : (s.heap.push (seqObj "list" #[] 0)).get? l = some o := Heap.get?_push_of_some _ ho
  refine wpAny_bind (wpAny_typeOf (T := T) ⟨o, ho', hc⟩ ?_)
  have ht : (Value.type T == Value.type "list" || Value.type T == Value.type "tuple") = true := by rcases hT with rfl | rfl <;> rfl
  rw [if_pos (by rw [Bool.or_assoc, ht]; simp)]
  refine wpAny_bind (PyProof.Rows.listItems_at ho' hd ?_)
  refine wpAny_bind (PyProof.Rows.listItems_at (xs := #[]) (n := 0) (Heap.get?_push_size _ rfl) rfl ?_)
  rw [if_neg (by simp)]
  refine wpAny_bind (PyProof.Rows.listUpdate_at (xs := #[]) (n := 0) (Heap.get?_push_size _ rfl) rfl ?_ (Nat.zero_le _) (by show (#[] ++ vs.toArray).size ≤ sizeLine + 1; simp only [Array.size_append, List.size_toArray, List.length_nil]; omega))
  refine wpAny_pure ?_
  show wpAny (model prog w) A (do
      let o ← load s.heap.objs.size
      match o.data with
      | .seq xs _ => pure xs.toList
      | _ => unsupported "internal:collect") Q E { s with heap := (s.heap.push (seqObj "list" #[] 0)).update s.heap.objs.size (Obj.mapSeq (· ++ vs.toArray)) }
  refine wpAny_bind (wpAny_load (PyProof.Rows.get?_update_seq (Heap.get?_push_size _ rfl) _) ?_)
  show wpAny _ _ (pure ((#[] : Array Value) ++ vs.toArray).toList) Q E _
  rw [show ((#[] : Array Value) ++ vs.toArray).toList = vs by simp]
  refine wpAny_pure (h _ s.toks fun b o' e => ?_)
  exact ((Heap.SameBut.update _ _ _).2 b (Nat.ne_of_lt (Heap.lt_size e))).trans (Heap.get?_push_of_some _ e)
section
variable {X : Cx} {pins : List (Addr × Obj)} {σ : L2.St} {H : Hp} {s : Shared} {a : Addr} {xs : List V} {kvs : List (NestedKey × V)}
theorem col_list (I : Inv X pins σ H s) (h : SqL X.K H a xs) : ∃ us, Vals xs us ∧ xs.length ≤ sizeLine ∧ Col X.prog X.w s a us := by
  obtain ⟨its, rv, ⟨o, n, ho, hc, hdn, hd⟩, hz⟩ := I.list h
  exact ⟨its, rv, hz, col_seq (.inl rfl) ho hc hd (by rw [← rv.length]; exact hz)⟩
theorem col_tup (I : Inv X pins σ H s) (h : SqT X.K H a xs) : ∃ us, Vals xs us ∧ xs.length ≤ sizeLine ∧ Col X.prog X.w s a us := by
  obtain ⟨its, rv, ⟨o, ho, hc, n, hd⟩, hz⟩ := I.tuple h
  exact ⟨its, rv, hz, col_seq (.inr rfl) ho hc hd (by rw [← rv.length]; exact hz)⟩
theorem col_dn (I : Inv X pins σ H s) (h : DN X.prog X.w H a kvs) : ∃ us vs, Vals vs us ∧ vs.length ≤ sizeLine ∧ FzA H vs (kvs.map (·.1)) ∧ Col X.prog X.w s a us := by
  obtain ⟨ts, hd, rfl, c⟩ := h
  obtain ⟨hs, hz, ks, pr', o, es, ep, ho, hx, hdt, he, _, hn⟩ := ndh_of I hd c
  have l1 : es.size = ks.length := size_of_entries he
  have l2 : ts.length = ks.length := Paired.length pr'
  refine ⟨(ts.map fun t => t.2.1).map Value.ref, (ts.map fun t => t.2.1).map V.ref, vals_refsN _, by rw [List.length_map, List.length_map]; exact hz, ?_, fun A E Q hh h => ?_⟩
  · have ev : (ts.map fun t => t.2.1).map V.ref = ts.map fun t => V.ref t.2.1 := by rw [List.map_map]; all_goals rfl
    rw [ev, List.map_map]
    exact fza_keys c
  · refine PySem.W.kdu_collect (kdl_raw hs hx hdt) hh ho (by omega) fun h' tk acc' kp it => ?_
    have ea : acc'.toList = ks.map fun x => Value.ref x.2.1 := by
      have hl : acc'.toList.length = ks.length := by rw [Array.length_toList, it.1]; exact l1
      apply List.ext_getElem?
      intro j
      rw [List.getElem?_map]
      cases hj : acc'.toList[j]? with
      | none =>
        have h1 := List.getElem?_eq_none_iff.mp hj
        rw [List.getElem?_eq_none (by omega)]
        all_goals rfl
      | some v =>
        obtain ⟨en, hen, hv⟩ := it.2 j v (by rw [← Array.getElem?_toList]; exact hj)
        have qe := entry_at he j
        rw [hen] at qe
        cases hb : ks[j]? with
        | none =>
          rw [hb] at qe
          exact nomatch (show some en = none from qe)
        | some b =>
          rw [hb] at qe
          have e2 : en = entryOfKey (nestedKind X.prog X.w) b := Option.some.inj qe
          rw [hv, e2]
          all_goals rfl
    have eb : acc'.toList = (ts.map fun t => t.2.1).map Value.ref := by rw [ea, ← nt_addr pr', List.map_map]; all_goals rfl
    rw [eb]
    exact h h' tk kp
/-- an untracked object of ours that is not a frame: kept by a call -/
theorem un_keep {H' : Hp} {s' : Shared} {b : Addr} {o : Obj} (I : Inv X pins σ H s) (u : Un (frs X.stack) [] H H' s.heap s'.heap) (hb : X.s_0.heap.objs.size ≤ b) (hL : b ≠ X.env.locals) (hf : b ∉ X.fs) (hn : H b = none) (e : s.heap.get? b = some o) : s'.heap.get? b = some o :=
  u.keep b o e hn (fun z => (List.mem_cons.mp (I.stkSub b z)).elim hL hf) (by simp)
/-- a list (tracked) and a record of ours have changed -/
theorem inv_out {ys xs : List V} {its : List Value} {n t' : Nat} {a kS : Addr} {h' : Heap} (I : Inv X pins σ H s) (hH : H a = some (.lst xs)) (fp : FpOk X pins H kS) (k : ∀ b o, b ≠ a → b ≠ kS → s.heap.get? b = some o → h'.get? b = some o)
    (ha : h'.get? a = some { cls := .type "list", data := .seq its.toArray n }) (hv : Vals ys its) (hz : ys.length ≤ sizeLine) : Inv X pins σ (upd H a (.lst ys)) { s with heap := h', toks := t' } := by
  obtain ⟨f0, f1, f2, f3, f4, f5⟩ := fp
  have nH : ∀ b, H b = none → b ≠ a := fun b e z => by rw [z, hH] at e; cases e
  have nA : ∀ b o, H b = some o → (∀ l, o ≠ .lst l) → b ≠ a := fun b o e hne z => by
    rw [z, hH] at e
    exact hne _ (Option.some.inj e).symm
  have nit : ∀ b u, H b = some u → b ≠ kS := fun b u e z => by rw [z, f0] at e; cases e
  refine I.step (g' := s.gens) (d' := s.drawn) (ch := [kS]) (fun b hb => ?_) (fun b o _ _ hc e n => k b o (nH b n) (fun z => hc (by simp [z])) e) (fun b o _ _ hc e n => ⟨o.slots, k b o (nH b n) (fun z => hc (by simp [z])) e⟩) (fun b o _ _ n => by rw [upd_ne (nH b n)]; exact n)
    (fun b o hc e => ?_) (fun b xs e => by rw [upd_ne (nA b _ e fun _ z => nomatch z)]; exact e) (fun b o u e => by rw [upd_ne (nA b _ e fun _ z => nomatch z)]; exact e) (fun b ps e => ⟨#[], by rw [upd_ne (nA b _ e fun _ z => nomatch z), e]; simp⟩) (fun m hm => ?_) (fun b u e => ?_) I.bare
  · have e : b = kS := by simpa using hb
    subst e
    exact ⟨f3, f1, f4, f5⟩
  · by_cases hb : b = a
    · rw [hb]; exact ⟨_, ha⟩
    · exact ⟨o, k b o hb (fun z => hc (by simp [z])) e⟩
  · obtain ⟨o, es, ep, ho, r⟩ := hm
    exact ⟨o, es, ep, k _ o (nH _ I.free) (Ne.symm f1) ho, r⟩
  · by_cases hb : b = a
    · rw [hb, upd_same] at e
      cases e
      rw [hb]
      exact ⟨hz, its, n, hv, ha⟩
    · rw [upd_ne hb] at e
      refine (I.hok b u e).stay (fun c v hc q => k c v ?_ ?_ q) (fun c q => by rw [upd_ne (nA c _ q fun _ z => nomatch z)]; exact q) fun c xs q => by rw [upd_ne (nA c _ q fun _ z => nomatch z)]; exact q
      · rcases hc with z | z
        · rw [z]; exact hb
        · exact nA c _ z fun _ z => nomatch z
      · rcases hc with z | z
        · rw [z]; exact nit b u e
        · exact nit c _ z
/-- a promise of a key def -/
def KeySp (sp : Sp) (fk : NestedKey → SK) (ks : List NestedKey) : Prop := ∀ k ∈ ks, ∀ (v : V) (H : Hp) (Q : VK), Fz H v k → (∀ u H', Same H H' → Fz H' u (skK (fk k)) → Q u H') → sp [v] H Q (fun _ _ _ => False)
theorem each_mapA {α β γ : Type} {R : α → γ → Prop} (f : β → γ) : ∀ {as : List α} {bs : List β}, EachIs (fun a b => R a (f b)) as bs → EachIs R as (bs.map f)
  | _, _, .nil => .nil
  | _, _, .cons h t => .cons h (each_mapA f t)
theorem each_fz {H : Hp} : ∀ {us : List Value} {vs : List V} {ks : List NestedKey}, Vals vs us → FzA H vs ks → EachIs (fun u k => ∃ v, RelV v u ∧ Fz H v k) us ks
  | _, _, [], r, h => by cases h; cases r; exact .nil
  | _, _, _ :: _, r, h => by
    cases h with
    | cons f1 f2 =>
      cases r with
      | cons r1 r2 => exact .cons ⟨_, r1, f1⟩ (each_fz r2 f2)
theorem sort_tree {us : List Value} {vs : List V} {ks : List NestedKey} {a f : Addr} {kf : Nat} {fd : FuncData} {ps : List Str} {sp : Sp} {fk : NestedKey → SK} {Q : VK} {s2 : Shared} (I0 : Inv X pins σ H s) (I : Inv X pins σ (upd H a (.lst vs)) s2) (hfree : H a = none) (hc : X.calm = true) (hv : Vals vs us) (hz : vs.length ≤ sizeLine) (hk : FzA H vs ks)
    (F : FnOk X.prog X.w X.K X.mg X.base CX0 kf f fd ps sp) (hr : Room (kf + 2) X.A) (hb : Binds X.K fd ps []) (hps : ps.length = 1) (hsp : KeySp sp fk ks) (hal : SkAlike (ks.map fk)) (hd : ∀ k ∈ ks, (fk k).2.2.depth ≤ 6)
    (ho : s2.heap.get? a = some (seqObj "list" us.toArray 0))
    (q : ∀ ys H', Same H H' → H' a = some (.lst ys) → FzA H' ys (ks.mergeSort (skLe fk)) → Q (.ref a) H') :
    wpAny (model X.prog X.w) X.A.in1.in1 (PyProof.Rows.ksk_tree a (.ref f) false) (fun fin s' => fin = .done (.ret .none) ∧ EP X pins σ Q (.ref a) s') (fun _ _ => False) s2 := by
  have hlen : us.length = vs.length := hv.length.symm
  have hZ : us.length ≤ sizeLine := by rw [hlen]; exact hz
  have hkl : ks.length = us.length := by rw [hlen]; exact hk.length.symm
  obtain ⟨e1, ho1⟩ : ∃ e1, (s2.heap.update a (Obj.mapSeq fun _ => (#[] : Array Value))).get? a = some (seqObj "list" #[] e1) := ⟨_, PyProof.Rows.get?_update_seq ho fun _ => #[]⟩
  unfold PyProof.Rows.ksk_tree
  refine wpAny_bind (PyProof.Rows.listItems_at ho rfl ?_)
  refine wpAny_bind (PyProof.Rows.listUpdate_at ho rfl ?_ (by rw [List.size_toArray]; exact hZ) (Nat.zero_le _))
  have I3 : Inv X pins σ (upd H a (.lst [])) { s2 with heap := s2.heap.update a (Obj.mapSeq fun _ => #[]) } := by
    have z := L2.Inv.lset (t' := s2.toks) (its' := []) (ys := []) (f := fun _ => #[]) I upd_same ho rfl .nil (Nat.zero_le _)
    rw [upd_upd] at z
    exact z
  have nf := I3.nofrz upd_same (u := .lst []) trivial
  obtain ⟨od, I4⟩ := I3.lock upd_same (u := .lst []) trivial
  rw [upd_upd] at I4
  have eod : od = seqObj "list" #[] e1 := by
    have z : (s2.heap.update a (Obj.mapSeq fun _ => #[])).get? a = some od := (I4.hok a _ upd_same).1
    rw [ho1] at z
    exact (Option.some.inj z).symm
  subst eod
  refine wpAny_bind (PyProof.Rows.seqEpoch_at ho1 rfl ?_)
  refine wpAny_bind (wpAny_newTuple ?_ hZ)
  refine wpAny_bind (wpAny_newList ?_ (Nat.zero_le _))
  have I5 : Inv X pins σ (upd H a (.frz (seqObj "list" #[] e1) (.lst []))) { s2 with heap := ((s2.heap.update a (Obj.mapSeq fun _ => #[])).push (seqObj "tuple" us.toArray 0)) } := I4.kept (t' := s2.toks) fun b o e => Heap.get?_push_of_some _ e
  have I6 : Inv X pins σ (upd H a (.frz (seqObj "list" #[] e1) (.lst []))) { s2 with heap := ((s2.heap.update a (Obj.mapSeq fun _ => #[])).push (seqObj "tuple" us.toArray 0)).push (seqObj "list" #[] 0) } := I5.kept (t' := s2.toks) fun b o e => Heap.get?_push_of_some _ e
  refine wpAny_holding ?_
  generalize hkS : ((s2.heap.update a (Obj.mapSeq fun _ => #[])).push (seqObj "tuple" us.toArray 0)).objs.size = kS
  have fp0 := I5.fpOk (H' := upd H a (.frz (seqObj "list" #[] e1) (.lst []))) (Nat.le_of_eq hkS) (I5.hok.fresh (Nat.le_of_eq hkS))
  have hkSa : kS ≠ a := by
    have z := I5.hok.lt (a := a) upd_same
    have z2 : a < kS := by rw [← hkS]; exact z
    exact Nat.ne_of_gt z2
  have hs0 : X.s_0.heap.objs.size ≤ kS := Nat.le_trans I5.sz (Nat.le_of_eq hkS)
  have nkS : ((((s2.heap.update a (Obj.mapSeq fun _ => #[])).push (seqObj "tuple" us.toArray 0)).push (seqObj "list" #[] 0))).get? kS = some (seqObj "list" #[] 0) := by rw [← hkS]; exact Heap.get?_push_size _ rfl
  have hun : X.A.in1.in1.units + 16 < cLine := by have := hr.un; show X.A.units + 1 + 1 + 16 < _; omega
  have hk3 : FzA (upd H a (.frz (seqObj "list" #[] e1) (.lst []))) vs ks := hk.sm (Same.new hfree)
  generalize hH3 : upd H a (.frz (seqObj "list" #[] e1) (.lst [])) = H3 at I6 fp0 hk3
  have hsame3 : Same H H3 := by rw [← hH3]; exact Same.new hfree
  have ha3 : H3 a = some (.frz (seqObj "list" #[] e1) (.lst [])) := by rw [← hH3]; exact upd_same
  clear hH3 I5 I4 I3 I I0
  unfold PyProof.Rows.ksk_rest
  refine wpAny_bind (wpAny_rule ?_)
  first
    | rw [List.forIn_toArray]
    | (rw [← Array.forIn_toList]; simp only [List.toList_toArray])
    | rw [← Array.forIn_toList]
  refine wpAny_bind (PyProof.Rows.ksk_fold (fun i s' => ∃ Hi kA e, Inv X pins σ Hi s' ∧ Same H3 Hi ∧ Hi kS = none ∧ s'.heap.get? kS = some (seqObj "list" kA e) ∧ EachIs (fun u k => ∃ v, RelV v u ∧ Fz Hi v (skK (fk k))) kA.toList (ks.take i)) us 0 _
    ⟨H3, #[], 0, I6, Same.refl _, fp0.1, nkS, by rw [List.take_zero]; exact EachIs.nil⟩ ?step ?done)
  case step =>
    rintro j x s' hx ⟨Hi, kA, e, Ii, sm, hn, nk', hkA⟩
    simp only [Nat.zero_add] at hkA ⊢
    have hj : j < us.length := (List.getElem?_eq_some_iff.mp hx).1
    obtain ⟨k, hkj⟩ : ∃ k, ks[j]? = some k := ⟨_, List.getElem?_eq_getElem (by omega)⟩
    obtain ⟨xv, hxv, fx⟩ := hk3.getK hkj
    obtain ⟨u, hu, ru⟩ := hv.get hxv
    rw [hx] at hu
    cases hu
    have hzk : kA.size ≤ us.length := by
      have h1 := hkA.length
      rw [Array.length_toList, List.length_take] at h1
      omega
    have hfp := Ii.fpOk (b := kS) (H' := Hi)
    have hrun := F.run X.A.in1.in1 X.stack s' Hi ⟨[x], []⟩ [x] [xv] (fun u' H' => Same Hi H' ∧ Fz H' u' (skK (fk k))) (fun _ _ _ => False) (hr.in1.in1) Ii.env0.in1.in1
      (by have z := hb s' [x] Ii.kIn (by simp [hps]); simpa using z) (.cons ru .nil) (hsp k (List.mem_of_getElem? hkj) xv Hi _ (fx.sm sm) fun u' H' h1 h2 => ⟨h1, h2⟩)
    refine wpAny_bind (wpAny_attempt (wpAny_call (codeAny_mono hrun fun r s'' hq => ?_)))
    cases r with
    | error e => exact False.elim hq
    | ok fl =>
      cases fl with
      | next => exact False.elim hq
      | brk => exact False.elim hq
      | cont => exact False.elim hq
      | ret w' =>
        obtain ⟨v, H', os, bare, un, hok, rv, sm', fz⟩ := hq
        have I' : Inv X pins σ H' s'' := Ii.call' os un hok bare (fun b z => absurd z (by simp))
        have nk2 : s''.heap.get? kS = some (seqObj "list" kA e) := un_keep Ii un hs0 fp0.2.1 fp0.2.2.1 hn nk'
        have hn2 : H' kS = none := un.free kS _ nk' hn (by simp)
        have s1 := Heap.SameBut.update s''.heap kS (Obj.mapSeq (·.push w'))
        obtain ⟨c2, hc2⟩ : ∃ c2, (s''.heap.update kS (Obj.mapSeq (·.push w'))).get? kS = some (seqObj "list" (kA.push w') c2) := ⟨_, PyProof.Rows.get?_update_seq nk2 (·.push w')⟩
        have ek : ks.take (j + 1) = ks.take j ++ [k] := by rw [List.take_add_one, hkj]; simp
        have ea : (kA.push w').toList = kA.toList ++ [w'] := by simp
        refine wpAny_bind (PyProof.Rows.listUpdate_at nk2 rfl ?_ (Nat.le_trans hzk hZ) (Nat.le_trans (Nat.le_of_eq (Array.size_push ..)) (Nat.succ_le_succ (Nat.le_trans hzk hZ))))
        obtain ⟨f0, f1, f2, f3, f4, f5⟩ := fp0
        refine wpAny_pure ⟨rfl, H', kA.push w', c2, I'.turned (t' := s''.toks) (fun b o hb e => (s1.2 b hb).trans e) hn2 f1 f3 f4 f5, sm.trans sm', hn2, hc2, ?_⟩
        rw [ea, ek]
        exact PySem.W.each_snoc (R := fun u k => ∃ v, RelV v u ∧ Fz H' v (skK (fk k))) ⟨v, rv, fz⟩ (hkA.mono fun u k ⟨v, r, z⟩ => ⟨v, r, z.sm sm'⟩)
  case done =>
    rintro s' ⟨Hi, kA, e, Ii, sm, hn, nk', hkA⟩
    have e3 : ks.take (0 + us.length) = ks := List.take_of_length_le (by omega)
    rw [e3] at hkA
    have hsz : kA.size = us.length := by
      have h1 := hkA.length
      rw [Array.length_toList] at h1
      omega
    try dsimp only
    refine wpAny_bind (PyProof.Rows.listItems_at nk' rfl ?_)
    have ha' : Hi a = some (.frz (seqObj "list" #[] e1) (.lst [])) := sm _ _ ha3
    have na' : s'.heap.get? a = some (seqObj "list" #[] e1) := (Ii.hok a _ ha').1
    have hR : EachIs (fun v x => ∃ as, Reads s'.heap v (skK x).data as) kA.toList (ks.map fk) := each_mapA (R := fun v x => ∃ as, Reads s'.heap v (skK x).data as) fk (hkA.mono fun u k ⟨v, r, z⟩ => Dp.reads Ii _ _ _ z.dp r)
    have hd' : ∀ x ∈ ks.map fk, x.2.2.depth ≤ 6 := fun x hx => by
      obtain ⟨k, hk1, rfl⟩ := List.mem_map.mp hx
      exact hd k hk1
    have IU := Ii.unlock ha' nf
    refine PySem.W.keyH_end (κ := skKind s'.heap (ks.map fk)) (h₁ := PySem.W.hideAll s'.heap [kS]) (fun b o hb e => PySem.W.of_hideAll [kS] e) (PySem.W.hideAll_none [kS] (by simp)) nk' na' hkSa (sorts_sk hR hal hun hd') hsz hZ fun h3 tk3 c k3 n3 => ⟨rfl, ?_⟩
    have hS : EachIs (fun v b => (skKind s'.heap (ks.map fk)).keyOf v = some (skT (fk b))) kA.toList ks := by
      have z : EachIs (fun v x => ∃ as, Reads s'.heap v (skK x).data as) kA.toList (ks.map fk) := hR
      exact (PySem.W.each_of_map (R := fun v x => (skKind s'.heap (ks.map fk)).keyOf v = some (skT x)) fk ((PySem.W.each_mem z).mono fun v x ⟨⟨as, r⟩, hx⟩ => skKind_some hx r))
    have hO := PySem.W.sortVals_each (κ := skKind s'.heap (ks.map fk)) (rev := false) (R := fun u k => ∃ v, RelV v u ∧ Fz H v k) (vs := us) (bs := ks) (fun k => skT (fk k)) ?each hS
    case each => exact each_fz hv hk
    obtain ⟨ys, hy1, hy2⟩ : ∃ ys, Vals ys (sortVals (skKind s'.heap (ks.map fk)) false kA.toList us) ∧ FzA H ys (ks.mergeSort (skLe fk)) := by
      have go : ∀ {us : List Value} {ks : List NestedKey}, EachIs (fun u k => ∃ v, RelV v u ∧ Fz H v k) us ks → ∃ ys, Vals ys us ∧ FzA H ys ks := by
        intro us ks h
        induction h with
        | nil => exact ⟨[], .nil, .nil⟩
        | cons h t ih =>
          obtain ⟨v, r, z⟩ := h
          obtain ⟨ys, r2, z2⟩ := ih
          exact ⟨v :: ys, .cons r r2, .cons z z2⟩
      exact go hO
    have hyl : ys.length ≤ sizeLine := by
      rw [hy2.length, List.length_mergeSort]
      omega
    have sm0 : Same H (upd (upd Hi a (.lst [])) a (.lst ys)) := fun b o e => by
      rw [upd_upd, upd_ne (ne_of_none e hfree)]
      exact sm _ _ (hsame3 _ _ e)
    obtain ⟨f0, f1, f2, f3, f4, f5⟩ := fp0
    refine ⟨.ref a, _, inv_out IU upd_same ⟨by rw [upd_ne hkSa]; exact hn, f1, f2, f3, f4, f5⟩ (fun b o hb1 hb2 e => k3 b o hb1 (PySem.W.hideAll_get _ e (by simpa using hb2))) n3 hy1 hyl, rfl, q ys _ sm0 upd_same (hy2.sm sm0)⟩
theorem sort_keyed {us : List Value} {vs : List V} {ks : List NestedKey} {src f : Addr} {kf : Nat} {fd : FuncData} {ps : List Str} {sp : Sp} {fk : NestedKey → SK} {Q : VK} (I : Inv X pins σ H s) (hc : X.calm = true) (col : Col X.prog X.w s src us) (hv : Vals vs us) (hz : vs.length ≤ sizeLine) (hk : FzA H vs ks)
    (F : FnOk X.prog X.w X.K X.mg X.base CX0 kf f fd ps sp) (hr : Room (kf + 2) X.A) (hb : Binds X.K fd ps []) (hps : ps.length = 1) (hsp : KeySp sp fk ks) (hal : SkAlike (ks.map fk)) (hd : ∀ k ∈ ks, (fk k).2.2.depth ≤ 6)
    (q : ∀ p ys H', H p = none → Same H H' → H' p = some (.lst ys) → FzA H' ys (ks.mergeSort (skLe fk)) → Q (.ref p) H')
    (ha1 : argsOk "sorted" ⟨[.ref src], [(Str.ofString "key", .ref f)]⟩) (ha2 : ∀ x, argsOk "list.sort" ⟨[.ref x], [(Str.ofString "key", .ref f)]⟩) :
    wpAny (model X.prog X.w) X.A (call (.builtin "sorted") [.ref src] [(Str.ofString "key", .ref f)]) (EP X pins σ Q) X.xe s := by
  have hh : X.A.handled = none := I.ok.hd hc
  refine PyProof.Rows.call_function_entry_kw PyProof.Rows.kind_sorted PyProof.Rows.plain_sorted PyProof.Rows.entry_sorted ha1 ?_
  unfold Builtin.«sorted»
  refine wpAny_bind (m := checkCount "sorted" 1 1 _) (wpAny_pure ?_)
  refine wpAny_bind (col _ _ _ (by exact hh) fun h1 tk1 kp1 => ?_)
  have I1 : Inv X pins σ H { s with heap := h1, toks := tk1 } := I.kept kp1
  have hlen : us.length = vs.length := hv.length.symm
  refine wpAny_bind (wpAny_newList ?_ (by rw [hlen]; exact hz))
  generalize ha : h1.objs.size = a
  have hfree : H a = none := I1.hok.fresh (Nat.le_of_eq ha)
  have I2 : Inv X pins σ (upd H a (.lst vs)) { s with heap := h1.push (seqObj "list" us.toArray 0), toks := tk1 } := I1.laid (s := { s with heap := h1, toks := tk1 }) (t' := tk1) (fun b o e => Heap.get?_push_of_some _ e) (Nat.le_of_eq ha) ⟨hz, us, 0, hv, by rw [← ha]; exact Heap.get?_push_size _ rfl⟩
  have hoa : (h1.push (seqObj "list" us.toArray 0)).get? a = some (seqObj "list" us.toArray 0) := by rw [← ha]; exact Heap.get?_push_size _ rfl
  refine wpAny_bind (wpAny_holding (PyProof.Rows.wpAny_call_entry_kw PyProof.Rows.slot_list_sort ⟨_, hoa, rfl⟩ PyProof.Rows.entry_list_sort ?body (ha2 _)))
  case body =>
    show wpAny (model X.prog X.w) X.A.in1.in1 (Builtin.«list.sort» ⟨[.ref a], [(Str.ofString "key", .ref f)]⟩) _ _ _
    rw [PyProof.Rows.ksk_t1]
    refine wpAny_mono (Q := fun fin s' => fin = .done (.ret .none) ∧ EP X pins σ Q (.ref a) s') (E := fun _ _ => False) ?main (fun fin s' hf => ?_) fun _ _ z => z.elim
    case main => exact sort_tree I I2 hfree hc hv hz hk F hr hb hps hsp hal hd hoa (fun ys H' h1 h2 h3 => q a ys H' hfree h1 h2 h3)
    obtain ⟨rfl, v, H', I', r, q'⟩ := hf
    exact ⟨_, rfl, wpAny_pure ⟨_, rfl, v, H', I', r, q'⟩⟩
end
end K34
namespace K34
open PySem PySem.Spec L2
open PySem.W (keyToks keyToksAll alike alikeAll EachIs SortsAt KeepsBut sortVals)
open PyProof.Rows (listOrd itemOrd seqObj)

/-! ### sorted(x, key=f) as a rule: x a list, a tuple, a dict of such keys -/
/-- what stands at src, as items -/
def Src (P : Program) (w : World) (K : PySem.W.Frag) (H : Hp) (src : Addr) (ks : List NestedKey) : Prop :=
  (∃ xs, (SqL K H src xs ∨ SqT K H src xs) ∧ FzA H xs ks) ∨ ∃ kvs, DN P w H src kvs ∧ kvs.map (·.1) = ks
def rSortK (P : Program) (w : World) (K : PySem.W.Frag) (f : Addr) (fk : NestedKey → SK) (Ok : NestedKey → Prop) : List V → List V → Hp → VK → Prop := fun vs zs H Q => ∃ src ks, vs = [V.ref src] ∧ zs = [V.ref f] ∧ Src P w K H src ks ∧ (∀ k ∈ ks, Ok k) ∧
  ∀ p ys H', H p = none → Same H H' → H' p = some (.lst ys) → FzA H' ys (ks.mergeSort (skLe fk)) → Q (.ref p) H'
section
variable {X : Cx}
theorem cr_sortK {f : Addr} {kf : Nat} {fd : FuncData} {ps : List Str} {sp : Sp} {fk : NestedKey → SK} {Ok : NestedKey → Prop} (hc : X.calm = true) (F : FnOk X.prog X.w X.K X.mg X.base CX0 kf f fd ps sp) (hr : Room (kf + 2) X.A) (hb : Binds X.K fd ps []) (hps : ps.length = 1)
    (hsp : ∀ ks : List NestedKey, (∀ k ∈ ks, Ok k) → KeySp sp fk ks) (hal : ∀ ks : List NestedKey, (∀ k ∈ ks, Ok k) → SkAlike (ks.map fk)) (hd : ∀ k, Ok k → (fk k).2.2.depth ≤ 6) : CallRK X (.builtin "sorted") [Str.ofString "key"] (rSortK X.prog X.w X.K f fk Ok) := by
  intro pins s σ H vs zs us ws Q I r rz h
  obtain ⟨src, ks, rfl, rfl, hs, hk, q⟩ := h
  obtain rfl := Vals.ref1 r
  obtain rfl := Vals.ref1 rz
  have go : ∀ {us : List Value} {vs : List V}, Vals vs us → vs.length ≤ sizeLine → FzA H vs ks → Col X.prog X.w s src us → wpAny (model X.prog X.w) X.A (call (.builtin "sorted") [.ref src] [(Str.ofString "key", .ref f)]) (EP X pins σ Q) X.xe s :=
    fun rv hz hf col => sort_keyed I hc col rv hz hf F hr hb hps (hsp ks hk) (hal ks hk) (fun k h => hd k (hk k h)) q (PyProof.Rows.ksk_s1 _ _) (fun _ => PyProof.Rows.ksk_l1 _ _)
  rcases hs with ⟨xs, hx, hf⟩ | ⟨kvs, hdn, rfl⟩
  · rcases hx with hx | hx
    · obtain ⟨us, rv, hz, col⟩ := col_list I hx
      exact go rv hz hf col
    · obtain ⟨us, rv, hz, col⟩ := col_tup I hx
      exact go rv hz hf col
  · obtain ⟨us, vs, rv, hz, hf, col⟩ := col_dn I hdn
    exact go rv hz hf col
end

/-! ### sorted of (text, text, int): a permutation -/
abbrev T3 := Str × Str × Int
def t3 (x : T3) : NestedKey := .tup [.text x.1, .text x.2.1, .num x.2.2]
theorem t3_data (x : T3) : (t3 x).data = .tuple [.str x.1, .str x.2.1, .int x.2.2] := by simp [t3, NestedKey.data, NestedKey.datas]
def rSort3 (K : PySem.W.Frag) : List V → Hp → VK → Prop := fun vs H Q => ∃ (a : Addr) (xs : List V) (ks : List T3), vs = [V.ref a] ∧ SqL K H a xs ∧ FzA H xs (ks.map t3) ∧
  ∀ p ys (ks' : List T3), H p = none → ks'.Perm ks → FzA H ys (ks'.map t3) → Q (.ref p) (upd H p (.lst ys))
section
variable {X : Cx}
theorem each_t3 {H : Hp} : ∀ {us : List Value} {vs : List V} {ks : List T3}, Vals vs us → FzA H vs (ks.map t3) → EachIs (fun u k => ∃ v, RelV v u ∧ Fz H v (t3 k)) us ks
  | _, _, [], r, h => by cases h; cases r; exact .nil
  | _, _, _ :: _, r, h => by
    cases h with
    | cons f1 f2 =>
      cases r with
      | cons r1 r2 => exact .cons ⟨_, r1, f1⟩ (each_t3 r2 f2)
theorem each_out {H : Hp} : ∀ {us : List Value} {ks : List T3}, EachIs (fun u k => ∃ v, RelV v u ∧ Fz H v (t3 k)) us ks → ∃ ys, Vals ys us ∧ FzA H ys (ks.map t3)
  | _, _, .nil => ⟨[], .nil, .nil⟩
  | _, _, .cons h t => by
    obtain ⟨v, r, z⟩ := h
    obtain ⟨ys, r2, z2⟩ := each_out t
    exact ⟨v :: ys, .cons r r2, .cons z z2⟩
theorem cr_sort3 (hu : X.A.units + 64 < cLine) : CallR X (.builtin "sorted") (rSort3 X.K) := by
  intro pins s σ H xs us Q I r h
  obtain ⟨a, vs, ks, rfl, hs, hf, q⟩ := h
  obtain rfl := Vals.ref1 r
  obtain ⟨its, rv, hl, hz⟩ := I.list hs
  have hlen : ks.length = vs.length := by rw [hf.length, List.length_map]
  have e := each_t3 rv hf
  refine PySem.W.sorted_data (bs := ks) (enc := fun x => (t3 x).data) (R := fun u k => ∃ v, RelV v u ∧ Fz H v (t3 k)) hl.isList e (e.mono fun u k ⟨v, r, z⟩ => Dp.reads I _ _ _ z.dp r) (PySem.W.AllAlike.of fun b b' => ?_) (PySem.W.Sortable.tuples fun b => ⟨_, _, t3_data b⟩) (by omega) (fun b _ => ?_) fun out ho eo => ?_
  · show alike (t3 b).data (t3 b').data = true
    rw [t3_data, t3_data]
    simp [alike, alikeAll]
  · show X.A.units + 2 + (t3 b).data.depth < cLine
    rw [t3_data]
    simp only [PyData.depth, PyData.depthAll]
    have := hu
    omega
  · obtain ⟨ys, ry, fy⟩ := each_out eo
    obtain ⟨ep, he'⟩ := PyProof.Rows.sortedAll_at s.heap its out.toArray
    have hyl : ys.length ≤ sizeLine := by rw [fy.length, List.length_map, List.length_mergeSort]; omega
    exact ⟨.ref _, upd H (s.heap.objs.size + 1) (.lst ys), I.laid (t' := s.toks) (fun _ _ => PyProof.Rows.sortedAll_old) (Nat.le_succ _) ⟨hyl, out, ep, ry, he'⟩, rfl, q _ ys _ (I.hok.fresh (Nat.le_succ _)) (List.mergeSort_perm _ _) fy⟩
end

/-! ### dict(pairs) whose keys are tuples -/
def foldE (es ps : List Ent) : List Ent := ps.foldl (fun acc t => putE acc t.1 t.2.1 t.2.2) es
def mergeN (kvs more : List (NestedKey × V)) : List (NestedKey × V) := more.foldl (fun acc kv => putK acc kv.1 kv.2) kvs
theorem pr_fold : ∀ (ps es : List Ent), (foldE es ps).map pr = mergeN (es.map pr) (ps.map pr)
  | [], _ => rfl
  | p :: ps, es => by
    show (foldE (putE es p.1 p.2.1 p.2.2) ps).map pr = mergeN (putK (es.map pr) p.1 p.2.2) (ps.map pr)
    rw [pr_fold ps, pr_put]
theorem mem_foldE : ∀ {ps es : List Ent} {t : Ent}, t ∈ foldE es ps → ∃ t' ∈ es ++ ps, t.1 = t'.1 ∧ t.2.1 = t'.2.1
  | [], es, t, h => ⟨t, by rw [List.append_nil]; exact h, rfl, rfl⟩
  | p :: ps, es, t, h => by
    obtain ⟨t', h1, h2, h3⟩ := mem_foldE (ps := ps) (es := putE es p.1 p.2.1 p.2.2) h
    rcases List.mem_append.mp h1 with q | q
    · rcases mem_putE q with ⟨t2, k1, k2, k3⟩ | ⟨k1, k2⟩
      · exact ⟨t2, List.mem_append_left _ k1, h2.trans k2, h3.trans k3⟩
      · exact ⟨p, List.mem_append_right _ (List.mem_cons_self ..), h2.trans k1, h3.trans k2⟩
    · exact ⟨t', List.mem_append_right _ (List.mem_cons_of_mem _ q), h2, h3⟩
theorem NT.fold {ts ps : List Ent} {xs qs : List (NestedKey × Addr × Value)} (r : NT ts xs) (q : NT ps qs) : NT (foldE ts ps) (storedAllH xs qs) := by
  unfold NT at q
  induction q generalizing ts xs with
  | nil => exact r
  | @cons p z ps qs h t ih =>
    obtain ⟨h1, h2, h3⟩ := h
    show NT (foldE (putE ts p.1 p.2.1 p.2.2) ps) (storedAllH (storedH xs z.1 z.2.1 z.2.2) qs)
    refine ih ?_
    rw [← h1, ← h2]
    exact r.put p.1 p.2.1 h3
theorem length_foldE : ∀ (ps es : List Ent), (foldE es ps).length ≤ es.length + ps.length
  | [], es => Nat.le_refl _
  | p :: ps, es => by
    have h1 := length_foldE ps (putE es p.1 p.2.1 p.2.2)
    have h2 := length_putE es p.1 p.2.1 p.2.2
    show (foldE (putE es p.1 p.2.1 p.2.2) ps).length ≤ _
    rw [List.length_cons]
    omega
def rDictN (P : Program) (w : World) (K : PySem.W.Frag) : List V → Hp → VK → Prop := fun xs H Q => ∃ (a : Addr) (prs : List V) (kvs : List (NestedKey × V)), xs = [.ref a] ∧ SqL K H a prs ∧
  Paired (fun v kv => ∃ p y, v = V.ref p ∧ H p = some (.tup [y, kv.2]) ∧ KY H y kv.1) prs kvs ∧ ∀ p H', H p = none → DW P w H' p (mergeN [] kvs) → (∀ b, b ≠ p → H' b = H b) → Q (.ref p) H'
section
variable {X : Cx}
theorem ents_of {pins : List (Addr × Obj)} {σ : L2.St} {H : Hp} {s : Shared} (I : Inv X pins σ H s) : ∀ {prs : List V} {us : List Value} {kvs : List (NestedKey × V)}, Vals prs us → Paired (fun v kv => ∃ p y, v = V.ref p ∧ H p = some (.tup [y, kv.2]) ∧ KY H y kv.1) prs kvs →
    ∃ (ts : List Ent) (qs : List (NestedKey × Addr × Value)) (Ts : List Addr), NT ts qs ∧ ts.map pr = kvs ∧ (∀ t ∈ ts, Fz H (.ref t.2.1) t.1 ∧ t.1.depth ≤ 8) ∧ us = Ts.map Value.ref ∧ Ts.length = qs.length ∧
      ∀ (j : Nat) (q : NestedKey × Addr × Value), qs[j]? = some q → ∃ T, Ts[j]? = some T ∧ s.heap.IsTuple T #[.ref q.2.1, q.2.2]
  | [], us, kvs, r, h => by
    cases h
    cases r
    exact ⟨[], [], [], .nil, rfl, (fun _ hx => nomatch hx), rfl, rfl, fun j q e => by simp at e⟩
  | v :: prs, us, kvs, r, h => by
    cases h with
    | @cons _ kv _ kvs h1 h2 =>
      cases r with
      | @cons _ u _ us r1 r2 =>
        obtain ⟨ts, qs, Ts, a1, a2, a3, a4, a5, a6⟩ := ents_of I r2 h2
        obtain ⟨p, y, rfl, hp, ky⟩ := h1
        obtain ⟨b, rfl⟩ := ky.ref
        cases r1
        obtain ⟨its, rv, ht, _⟩ := I.tuple (SqT.of hp)
        obtain ⟨u1, u2, rfl, e1, e2⟩ := vals2 rv
        cases e1
        refine ⟨(kv.1, b, kv.2) :: ts, (kv.1, b, u2) :: qs, p :: Ts, .cons ⟨rfl, rfl, e2⟩ a1, by rw [List.map_cons, a2]; rfl, fun t ht => ?_, by rw [List.map_cons, a4], by simp [a5], fun j q e => ?_⟩
        · rcases List.mem_cons.mp ht with e | e
          · subst e; exact ⟨ky.1, ky.2.1⟩
          · exact a3 t e
        · cases j with
          | zero =>
            have e' : (kv.1, b, u2) = q := Option.some.inj e
            subst e'
            exact ⟨p, rfl, ht⟩
          | succ j => exact a6 j q (by simpa using e)
theorem call_dictN (hc : X.calm = true) (hu : X.A.units + 64 < cLine) : CallR X (.type "dict") (rDictN X.prog X.w X.K) := by
  intro pins s σ H xs us Q I r h
  obtain ⟨a, prs, kvs, rfl, hs, hp, q⟩ := h
  obtain rfl := Vals.ref1 r
  obtain ⟨its, rv, ⟨o, n, ho, hcl, hdn, hd⟩, hz⟩ := I.list hs
  obtain ⟨ts, qs, Ts, a1, a2, a3, a4, a5, a6⟩ := ents_of I rv hp
  subst a4
  have hzl : qs.length ≤ sizeLine := by
    have := rv.length
    rw [List.length_map] at this
    omega
  have hts : ts.length = qs.length := Paired.length a1
  let ps : List (Value × Value) := qs.map fun q => (Value.ref q.2.1, q.2.2)
  have hps : ps.length = qs.length := by simp [ps]
  have hit : PairItems s.heap (Ts.map Value.ref).toArray (fun j => Ts.getD j 0) ps := by
    refine ⟨by simp [hps, a5], fun j k v e => ?_⟩
    have e2 : (qs[j]?).map (fun q => (Value.ref q.2.1, q.2.2)) = some (k, v) := by rw [← List.getElem?_map]; exact e
    obtain ⟨q, h1, h2⟩ := Option.map_eq_some_iff.mp e2
    obtain ⟨T, h3, h4⟩ := a6 j q h1
    cases h2
    have eT : Ts.getD j 0 = T := by rw [List.getD_eq_getElem?_getD, h3]; rfl
    refine ⟨?_, .inl ?_⟩
    · show (Ts.map Value.ref).toArray[j]? = some (.ref (Ts.getD j 0))
      rw [eT, List.getElem?_toArray, List.getElem?_map, h3]
      rfl
    · show s.heap.IsTuple (Ts.getD j 0) _
      rw [eT]
      exact h4
  refine call_dict_pairsH (knd := nestedKind X.prog X.w) (ps := qs) (PairArg.list a (Ts.map Value.ref).toArray (fun j => Ts.getD j 0) ps) (I.ok.hd hc) (by show X.A.units + 1 + 1 + 8 < cLine; omega) ⟨⟨o, n, ho, hcl, hdn, hd⟩, hit⟩ ⟨hps.symm, fun i key v e => ?_⟩ (fun h' hk x hx => ?_) (by rw [hps]; exact hzl) fun h' tk dd kp => ?_
  · have e2 : (qs[i]?).map (fun q => (Value.ref q.2.1, q.2.2)) = some (key, v) := by rw [← List.getElem?_map]; exact e
    obtain ⟨q, h1, h2⟩ := Option.map_eq_some_iff.mp e2
    cases h2
    exact ⟨q.1, q.2.1, h1, rfl⟩
  · obtain ⟨t, ht, e1, e2⟩ : ∃ t ∈ ts, t.1 = x.1 ∧ t.2.1 = x.2.1 := by
      have go : ∀ {ts : List Ent} {qs : List (NestedKey × Addr × Value)}, NT ts qs → x ∈ qs → ∃ t ∈ ts, t.1 = x.1 ∧ t.2.1 = x.2.1 := by
        intro ts qs r hx
        unfold NT at r
        induction r with
        | nil => exact nomatch hx
        | @cons p z ps zs hp tp ih =>
          rcases List.mem_cons.mp hx with e | e
          · subst e; exact ⟨p, List.mem_cons_self .., hp.1, hp.2.1⟩
          · obtain ⟨t, h1, h2⟩ := ih e
            exact ⟨t, List.mem_cons_of_mem _ h1, h2⟩
      exact go a1 hx
    have := a3 t ht
    rw [← e1, ← e2]
    have hd2 : (nestedKind X.prog X.w).is s.heap t.1 t.2.1 := nk_is I this.1 this.2
    exact nestedKind_stays.stays (fun b o vs n e q => hk b o (fun z => by
      have := Heap.lt_size e
      rw [z] at this
      exact Nat.lt_irrefl _ this) (by simp) e) hd2
  · have hm : (s.heap.objs.size == sysModules) = false := beq_eq_false_iff_ne.mpr (Nat.ne_of_gt I.big)
    have hl : (foldE [] ts).length ≤ sizeLine := by
      have := length_foldE ts []
      rw [List.length_nil] at this
      omega
    have fr := I.hok.fresh (Nat.le_refl s.heap.objs.size)
    refine ⟨.ref s.heap.objs.size, upd H s.heap.objs.size (ND X.prog X.w s.heap.objs.size (foldE [] ts)), I.laid (t' := tk) (fun b o e => kp b o (by simp) e) (Nat.le_refl _) (nd_new hl hm (NT.fold .nil a1) dd), rfl, q _ _ fr ⟨_, upd_same, by rw [pr_fold, a2]; rfl, fun t ht => ?_⟩ fun b hb => upd_ne hb⟩
    obtain ⟨t', h1, h2, h3⟩ := mem_foldE ht
    rw [List.nil_append] at h1
    have := a3 t' h1
    rw [h2, h3]
    exact ⟨this.1.sm (Same.new fr), this.2⟩
end

/-! ### repr of a list of one int (no repr is running) -/
def rRepr1 (K : PySem.W.Frag) : List V → Hp → VK → Prop := fun xs H Q => ∃ a n, xs = [.ref a] ∧ SqL K H a [.int n] ∧ n.natAbs.log2 < 1920 ∧ (PyData.list [.int n]).shown.length ≤ sizeLine ∧ Q (.str (PyData.list [.int n]).shown) H
theorem call_repr1 {X : Cx} (hg : X.A.guards = some []) (hu : X.A.units + 64 < cLine) : CallR X (.builtin "repr") (rRepr1 X.K) := by
  intro pins s σ H xs us Q I r h
  obtain ⟨a, n, rfl, hs, hn, hl, q⟩ := h
  obtain rfl := Vals.ref1 r
  obtain ⟨as, rd⟩ := Dp.reads I (.list [.int n]) (.ref a) (.ref a) (.lst hs (.cons (.int n) .nil)) rfl
  refine repr_of_reads' rd (by simp [PyData.showable, PyData.showableAll, hn]) (by simp [PyData.hasDict, PyData.hasDictAll]) hg (by simp only [PyData.depth, PyData.depthAll]; omega) (fun _ _ e => e) (fun h' u tk kp => ?_) hl
  exact ⟨.str _, H, I.kept kp, ⟨_, rfl⟩, q⟩

/-! ### enumerate(tuple) -/
theorem meets_enum_tup (t : Addr) (items : Array Value) :
    Meets (Builtin.«enumerate.__new__» ⟨[.type "enumerate", .ref t], []⟩) (fun _ R s => s.heap.IsTuple t items ∧
      R (.ok (.ret (.ref (s.heap.push { cls := .type "tuple_iterator", data := .fields #[.ref t, .int 0 0] }).objs.size)))
        { s with heap := (s.heap.push { cls := .type "tuple_iterator", data := .fields #[.ref t, .int 0 0] }).push { cls := .type "enumerate", data := .fields #[.none, .bool false, .ref s.heap.objs.size, rawInt 0, .none, .none] } }) :=
  .of_wp fun prog w A R s h => by
    obtain ⟨hp, g, d, tk, os⟩ := s
    obtain ⟨h1, h⟩ := h
    have hsub := sub_enumerate
    have q1 : ∀ {A' : Around} {E : Value → Shared → Prop} {Q : Value → Shared → Prop}, Q (.ref hp.objs.size) ⟨hp.push { cls := .type "tuple_iterator", data := .fields #[.ref t, .int 0 0] }, g, d, tk, os⟩ → wpAny (model prog w) A' (pyIter (.ref t)) Q E ⟨hp, g, d, tk, os⟩ :=
      fun q => wpAny_pyIter_tuple h1 q
    wp_walk using q1
    refine wpAny_stack_any fun st => wpAny_pure ?_
    split
    · rename_i c _ _ _ _ _
      cases (c == Value.type "enumerate")
      · wp_walk using q1
        exact ⟨_, rfl, h⟩
      · wp_walk using q1
        exact ⟨_, rfl, h⟩
    · wp_walk using q1
      exact ⟨_, rfl, h⟩
/-- the tuple's items at each turn, each in a new pair -/
def IteT (K : PySem.W.Frag) (a : Addr) (xs : List V) : It :=
  ⟨fun i H => SqT K H a xs ∧ i < xs.length, fun i H v H' => ∃ T x, v = .ref T ∧ H T = none ∧ H' = upd H T (.tup [.int (i : Nat), x]) ∧ xs[i]? = some x, fun i H => SqT K H a xs ∧ xs.length = i⟩
theorem turn_enumT {P : Program} {w : World} {K : PySem.W.Frag} {elts : List Expr} {kk : Nat} {tpos : Pos} (a e it : Addr) (xs : List V) :
    Turn P w K (.Tuple elts kk tpos) (IteT K a xs) [e, it] e (fun i h => (∃ old, IsEnum h e it ((i : Nat) : Int) old) ∧ h.IsTupleIter it a i ∧ e ≠ it) where
  mem := by simp
  obj := fun i h st b hb => by
    obtain ⟨⟨old, he⟩, ⟨o, ho, hc, hd⟩, _⟩ := st
    have e' : b = e ∨ b = it := by simpa using hb
    rcases e' with z | z
    · subst z; exact ⟨_, he, fun v q => nomatch q⟩
    · subst z; exact ⟨o, ho, fun v q => by rw [hd] at q; cases q⟩
  keep := fun i h h' st k => ⟨let ⟨old, he⟩ := st.1; ⟨old, k e (by simp) _ he⟩, st.2.1.at fun o q => k it (by simp) o q, st.2.2⟩
  item := by
    intro X hP hw hK hc i pins s σ H E I hf st hg
    subst hP hw hK
    obtain ⟨⟨old, he⟩, hit, hne⟩ := st
    obtain ⟨hq, hx⟩ := hg
    obtain ⟨its, rv, ht, hz⟩ := I.tuple hq
    have hia : a ≠ it := fun z => by
      obtain ⟨o, ho, _, n, hd⟩ := ht
      obtain ⟨o', ho', _, hd'⟩ := hit
      rw [z, ho'] at ho
      cases ho
      rw [hd] at hd'
      cases hd'
    have hea : e ≠ a := fun z => by
      obtain ⟨o, ho, _, n, hd⟩ := ht
      rw [← z, he] at ho
      cases ho
      cases hd
    have hel : e < s.heap.objs.size := Heap.lt_size he
    have hil : it < s.heap.objs.size := by obtain ⟨_, q, _⟩ := hit; exact Heap.lt_size q
    have hlen : its.toArray.size = xs.length := by rw [List.size_toArray]; exact rv.length.symm
    refine wpAny_pyNext_enum_itemC (Draws.tuple (A := X.A.in1) (show X.A.in1.handled = none from I.ok.hd hc) it a hia its.toArray) he ⟨hit, ht⟩ (by omega) hne (by simp [hne, hea]) fun u h' tk hu ho hs hT hsz hk => ?_
    have ru : RelV xs[i] u := by
      obtain ⟨u', h1, h2⟩ := rv.get (List.getElem?_eq_getElem hx)
      have h3 : its[i]? = some u := by simpa using hu
      rw [h1] at h3
      cases h3
      exact h2
    refine ⟨_, rfl, wpAny_letOwnedTupleGo_enum (s := { s with heap := h', toks := tk + 1 }) ho fun h'' he' sb => ?_⟩
    have hT2 : h''.get? s.heap.objs.size = some { cls := .type "tuple", data := .seq #[.int i tk, u] } := (sb.2 _ (Nat.ne_of_gt hel)).trans hT
    have kp : ∀ b ob, b ∉ [e, it] → s.heap.get? b = some ob → h''.get? b = some ob := fun b ob hb q => (sb.2 b (fun z => hb (by simp [z]))).trans (hk b ob (fun z => hb (by simp [z])) (fun z => hb (by simp [z])) q)
    have I1 : Inv X pins σ (upd H s.heap.objs.size (.tup [.int (i : Nat), xs[i]])) { s with heap := h'', toks := tk + 1 } :=
      I.turnedNew (ch := [e, it]) kp hf (Nat.le_refl _) ⟨by show 2 ≤ sizeLine; decide, [.int i tk, u], .cons ⟨_, rfl⟩ (.cons ru .nil), ⟨_, hT2, rfl, _, rfl⟩⟩
    refine ⟨.ref s.heap.objs.size, _, I1, rfl, ⟨_, _, rfl, I.hok.fresh (Nat.le_refl _), rfl, List.getElem?_eq_getElem hx⟩, ⟨⟨u, ?_⟩, hs.1.at fun o q => (sb.2 it (Ne.symm hne)).trans q, hne⟩, fun b hb => ?_⟩
    · have e1 : ((i + 1 : Nat) : Int) = (i : Int) + 1 := by omega
      rw [e1]; exact he'
    · have hb' : b < s.heap.objs.size := by
        have e' : b = e ∨ b = it := by simpa using hb
        rcases e' with z | z
        · rw [z]; exact hel
        · rw [z]; exact hil
      rw [upd_ne (Nat.ne_of_lt hb')]
      exact (hf b hb).1
  done := by
    intro X hP hw hK hc i pins s σ H E I hf st hg
    subst hP hw hK
    obtain ⟨⟨old, he⟩, hit, hne⟩ := st
    obtain ⟨hq, hx⟩ := hg
    obtain ⟨its, rv, ht, hz⟩ := I.tuple hq
    obtain ⟨f0, f1, f2, f3, f4, f5⟩ := hf it (by simp)
    have hia : a ≠ it := fun z => by
      obtain ⟨o, ho, _, n, hd⟩ := ht
      obtain ⟨o', ho', _, hd'⟩ := hit
      rw [z, ho'] at ho
      cases ho
      rw [hd] at hd'
      cases hd'
    have hlen : its.toArray.size = xs.length := by rw [List.size_toArray]; exact rv.length.symm
    refine wpAny_pyNext_enum_endD (Draws.tuple (A := X.A.in1) (show X.A.in1.handled = none from I.ok.hd hc) it a hia its.toArray) he ⟨by rw [hlen, hx]; exact hit, ht⟩ fun h' eb => ⟨rfl, I.turned (t' := s.toks) (fun b o hb q => eb b o hb q) f0 f1 f3 f4 f5⟩
  self := fun A i s Q E st h => let ⟨⟨_, he⟩, _⟩ := st; wpAny_pyIter_enum he h
def iEnumT (K : PySem.W.Frag) (ta : TA) : TI := fun σ H R => ta σ H fun vs H1 => ∃ a xs, vs = [.ref a] ∧ SqT K H1 a xs ∧ R (IteT K a xs) H1
theorem pi_enumT {X : Cx} {e : Expr} {ta : TA} {p pos tpos : Pos} {elts : List Expr} {kk : Nat} (hg : Gl X "enumerate") (hm : X.mg "enumerate" = none) (ha : PA X [e] ta) (hs : starEach [e] X.env = [(false, eval e X.env)] := by rfl) :
    PI X (.Tuple elts kk tpos) (.Call (.Name "enumerate" p) [e] [] pos) (iEnumT X.K ta) := by
  refine ⟨fun pins s σ H R I h => ?_⟩
  refine PyProof.Rows.Call_ (ld_blt I hg hm PyProof.Rows.boot_enumerate (PyProof.Rows.callWith_type1 (thn (ha.run pos pins s σ H _ I h) fun us s1 ⟨vs, H1, I1, r1, q1⟩ => ?_) hs rfl))
  obtain ⟨a, xs, rfl, hq, q⟩ := q1
  obtain rfl := Vals.ref1 r1
  obtain ⟨its, rv, ht, hz⟩ := I1.tuple hq
  refine callType_new F.called_enumerate (by decide) (F.typeCall_enumerate_1 _) (F.newCall_enumerate_1 _) (fun obj => F.args_object_init_2 obj _) F.entry_enumerate_new (meets_enum_tup a its.toArray) ⟨ht, ?_⟩
  have hz2 : (s1.heap.push { cls := .type "tuple_iterator", data := .fields #[.ref a, .int 0 0] }).objs.size = s1.heap.objs.size + 1 := Heap.size_push ..
  show _ ∧ _
  rw [hz2]
  have he : IsEnum ((s1.heap.push { cls := .type "tuple_iterator", data := .fields #[.ref a, .int 0 0] }).push { cls := .type "enumerate", data := .fields #[.none, .bool false, .ref s1.heap.objs.size, rawInt 0, .none, .none] }) (s1.heap.objs.size + 1) s1.heap.objs.size 0 .none := by
    have z := Heap.get?_push_size (s1.heap.push { cls := .type "tuple_iterator", data := .fields #[.ref a, .int 0 0] }) (o := { cls := .type "enumerate", data := .fields #[.none, .bool false, .ref s1.heap.objs.size, rawInt 0, .none, .none] }) rfl
    rw [hz2] at z
    exact z
  refine ⟨⟨_, he, rfl⟩, wpAny_pyIter_enum he ?_⟩
  have I2 : Inv X pins σ H1 { s1 with heap := (s1.heap.push { cls := .type "tuple_iterator", data := .fields #[.ref a, .int 0 0] }).push { cls := .type "enumerate", data := .fields #[.none, .bool false, .ref s1.heap.objs.size, rawInt 0, .none, .none] } } := I1.kept (t' := s1.toks) fun b o x => Heap.get?_push_of_some _ (Heap.get?_push_of_some _ x)
  refine ⟨s1.heap.objs.size + 1, [s1.heap.objs.size + 1, s1.heap.objs.size], _, _, H1, rfl, I2, turn_enumT a (s1.heap.objs.size + 1) s1.heap.objs.size xs, ⟨⟨.none, he⟩, ⟨_, Heap.get?_push_of_some _ (Heap.get?_push_size _ rfl), rfl, rfl⟩, Nat.succ_ne_self _⟩, fun b hb => ?_, q⟩
  have e' : b = s1.heap.objs.size + 1 ∨ b = s1.heap.objs.size := by simpa using hb
  have hle : s1.heap.objs.size ≤ b := by
    rcases e' with z | z
    · rw [z]; exact Nat.le_add_right _ _
    · rw [z]; exact Nat.le_refl _
  exact I1.fpOk hle (I1.hok.fresh hle)
end K34
namespace K34
open PySem PySem.Spec L2

/-! ### defs that run where no repr runs (repr of a list is asked in them) -/
structure FnG (P : Program) (w : World) (K : PySem.W.Frag) (mg : Str → Option Value) (base : Heap) (k : Nat) (f : Addr) (fd : FuncData) (ps : List Str) (sp : Sp) : Prop where
  len : ∀ vs H Q E, sp vs H Q E → vs.length = ps.length
  run : ∀ (A : Around) (outer : List Env) (s : Shared) (H : Hp) (args : Args) (us : List Value) (vs : List V) (Q : VK) (E : XK), A.guards = some [] → Room k A → Env0 P w K mg base A outer s H → BindsTo s fd args (ps.zip us) → Vals vs us → sp vs H Q E →
    codeAny (model P w) A (.call (.ref f) args) (CR CX0 outer P w H s Q E) s
section
variable {P : Program} {w : World} {K : PySem.W.Frag} {mg : Str → Option Value} {base : Heap} {x qual : Str} {params : Arguments} {body : List Stmt} {scope : Scope} {dvs : List V} {kws : List (Str × V)} {f : Addr} {fd : FuncData}
theorem fnG_of {N ps : List Str} {k : Nat} {sp : Sp} (F : FunD K x qual params body scope dvs kws f fd) (S : FnScope N ps scope) (len : ∀ vs H Q E, sp vs H Q E → vs.length = ps.length)
    (hbody : ∀ (cdv : Value) (A : Around) (outer : List Env) (s : Shared) (H : Hp) (vs : List V) (Q : VK) (E : XK), A.guards = some [] → Room k (A.deeper (PyProof.Rows.envOfC qual scope s.heap.objs.size f cdv)) → sp vs H Q E →
      ∃ t, PSs (cxOf CX0 P w K mg base N qual scope f cdv A outer s H E).nox body t ∧ t { nx := fun _ H' => Q .non H', rt := Q } (start N vs) H) : FnG P w K mg base (k + 1) f fd ps sp := by
  obtain ⟨oc, od, dV, kV, doc, pm, an, cdv, ct, osl, rfl, lk, hcd, _, _⟩ := F.ex
  refine ⟨len, fun A outer s H args us vs Q E hg hr e0 hb r hsp => ?_⟩
  have KX : K.In s.heap := e0.mod.kin.keeps fun b o e => (e0.bs b o e).1
  have lim : s.heap.NoLimit := e0.mod.nolimit.keeps fun b o e => (e0.bs b o e).1
  refine codeAny_call_function hr.depth (KX _ _ lk) rfl S.co S.gen rfl (PySem.W.codeRec_of KX hcd) (hb _ _ _ _ (wpAny_newFunctionEnv_cells S.kind (fun y hy => ?_) fun env he s1 z => ?_))
  · have q := S.par y.1 (List.of_mem_zip (show (y.1, y.2) ∈ ps.zip us from hy)).1
    exact q.imp id fun q => ⟨q, PySem.W.cellsFrom_some _ _ _ (.inl q)⟩
  · subst he
    obtain ⟨t, ht, hq⟩ := hbody cdv A outer s H vs Q E hg (hr.deeper _) hsp
    have I : Inv (cxOf CX0 P w K mg base N qual scope f cdv A outer s H E) [] (start N vs) H s1 := inv_start S hr.hd e0 (len _ _ _ _ hsp) r z
    refine ⟨lim.keeps z.toInCall.keep, codeAny_func (wpAny_mono (ht.nox.run [] s1 (start N vs) H _ I hq) (fun fl s' hs => ?_) fun e s' hs => hs)⟩
    cases fl with
    | ret u =>
      obtain ⟨v, σ', H', J, rv, q⟩ := hs
      exact ⟨v, H', J.os, J.bare, J.base, J.hok, rv, q⟩
    | next =>
      obtain ⟨σ', H', J, q⟩ := hs
      exact ⟨.non, H', J.os, J.bare, J.base, J.hok, rfl, q⟩
    | brk =>
      obtain ⟨_, _, _, q⟩ := hs
      exact q.elim
    | cont =>
      obtain ⟨_, _, _, q⟩ := hs
      exact q.elim
end
section
variable {X : Cx} {k : Nat} {f : Addr} {fd : FuncData} {ps : List Str} {sp : Sp} {x : Str} {p pos : Pos} {e : Expr} {es : List Expr} {t : TA}
theorem pe_callG (F : FnG X.prog X.w X.K X.mg X.base k f fd ps sp) (hgd : X.A.guards = some []) (hr : Room k X.A) (hg : Gl X x) (hm : X.mg x = some (.ref f)) (hk : PySem.W.keepIn X.K (.ref f) = true) (hb : Binds X.K fd ps [])
    (ha : PA X (e :: es) t) (hdb : (x == ("__debug__" : Str)) = false := by decide) (he : starEach (e :: es) X.env = (false, eval e X.env) :: starEach es X.env := by rfl) (hpl : (backTo pos (starEach es X.env)).any (·.1) = false := by rfl) :
    PE X (.Call (.Name x p) (e :: es) [] pos) (tCall sp [] E0 t) := by
  refine ⟨fun pins s σ H Q I h => ?_⟩
  refine wpAny_Call_Name_kw (ld_glob I hg hm ?_ hdb)
  refine PySem.W.callWith_K (h₀ := X.base) I.ok.mod.kin hk (thn (ha.run pos pins s σ H _ I h) fun us s1 ⟨vs, H1, I1, r, q⟩ => ⟨I1.kIn, ?_⟩) he hpl
  have q : sp (vs ++ []) H1 Q E0 := q
  rw [List.append_nil] at q
  have hl : us.length = ps.length := by rw [← r.length]; exact F.len _ _ _ _ q
  have hb1 := hb s1 us I1.kIn (by rw [List.append_nil]; exact hl)
  rw [List.append_nil] at hb1
  refine wpAny_call (codeAny_mono (F.run X.A X.stack s1 H1 ⟨us, []⟩ us vs Q E0 hgd hr I1.env0 hb1 r q) fun res s' hq => ?_)
  cases res with
  | error e => exact hq.elim
  | ok fl =>
    cases fl with
    | ret u => exact I1.after hq
    | next => exact hq.elim
    | brk => exact hq.elim
    | cont => exact hq.elim
end
/-! ### the law's own call -/
section
variable {P : Program} {w : World} {K : PySem.W.Frag} {mg mb : Str → Option Value} {k : Nat} {fa a : Addr} {x : Str} {sp : Sp} {s1 : Shared} {vs : List Value} {ns : List Int}
open Classical in
/-- the script alone is known, where it is no part of the text -/
noncomputable def H0 (K : PySem.W.Frag) (a : Addr) (vs : List Value) (ns : List Int) : Hp := fun b => if b = a ∧ K.lookup a = none then some (.frz { cls := .type "list", data := .seq vs.toArray } (.lst (ns.map V.int))) else none
theorem H0_some {K : PySem.W.Frag} {b : Addr} {u : HO} (h : H0 K a vs ns b = some u) : b = a ∧ K.lookup a = none ∧ u = .frz { cls := .type "list", data := .seq vs.toArray } (.lst (ns.map V.int)) := by
  unfold H0 at h
  split at h
  · rename_i q
    exact ⟨q.1, q.2, (Option.some.inj h).symm⟩
  · cases h
theorem law_callG (KX : K.In s1.heap) (hns : s1.heap.Ns mainGlobals mg) (hb : s1.heap.Ns builtinsNs mb) (hbb : ∀ x : Str, x ≠ "__name__" → mb x = bootBuiltins x) (hlim : s1.heap.NoLimit) (hg : s1.gens = #[])
    (ha : s1.heap.get? a = some { cls := .type "list", data := .seq vs.toArray }) (hi : PyProof.Rows.IntsAre vs ns) (hl : ns.length ≤ sizeLine) (hr : Room k callerA)
    (F : ∀ base : Heap, K.In base → base.Ns mainGlobals mg → ∃ fd, Binds K fd [x] [] ∧ FnG P w K mg base k fa fd [x] sp)
    (hsp : ∀ H : Hp, SqL K H a (ns.map V.int) → sp [.ref a] H (fun v _ => v = .bl true) fun _ _ _ => False) :
    codeAny (model P w) callerA (.call (.ref fa) ⟨[.ref a], []⟩) (fun r s' => r = .ok (.ret (.bool true)) ∧ OldK s1.heap s'.heap ∧ s'.os = s1.os ∧ PyProof.Rows.AllBare s'.gens) s1 := by
  have rv := vals_ints hi
  have hS : SqL K (H0 K a vs ns) a (ns.map V.int) := by
    cases hk : K.lookup a with
    | none => exact .inl (.inr ⟨_, by unfold H0; rw [if_pos ⟨rfl, hk⟩]⟩)
    | some o =>
      have e := KX a o hk
      rw [ha] at e
      cases e
      refine .inr ⟨_, vs.toArray, _, hk, rfl, rfl, rfl, ?_, ?_⟩
      · rw [List.size_toArray, hi.length]; exact hl
      · simpa using rv
  have hok : HOk P w (H0 K a vs ns) s1.heap := fun b u e => by
    obtain ⟨rfl, _, rfl⟩ := H0_some e
    exact ⟨ha, by rw [List.length_map]; exact hl, vs, _, rv, ha⟩
  have dictFree : ∀ {b : Addr} {o : Obj} {es : Array DictEntry} {ep : Nat}, s1.heap.get? b = some o → o.data = .dict es ep → H0 K a vs ns b = none := fun {b o es ep} e d => by
    cases q : H0 K a vs ns b with
    | none => rfl
    | some u =>
      obtain ⟨rfl, _, _⟩ := H0_some q
      rw [ha] at e
      cases e
      cases d
  have hideNs : ∀ {b : Addr} {m : Str → Option Value}, s1.heap.Ns b m → (hidT s1.heap (H0 K a vs ns)).Ns b m := fun {b m} q => by
    obtain ⟨o, es, ep, e, d, r⟩ := q
    exact ⟨o, es, ep, hidT_get e (dictFree e d), d, r⟩
  have hKb : K.In (hidT s1.heap (H0 K a vs ns)) := fun b o e => by
    refine hidT_get (KX b o e) ?_
    cases q : H0 K a vs ns b with
    | none => rfl
    | some u =>
      obtain ⟨rfl, q2, _⟩ := H0_some q
      rw [q2] at e
      cases e
  have hM : Mod K mg (hidT s1.heap (H0 K a vs ns)) := ⟨hKb, hideNs hns, ⟨mb, hideNs hb, hbb⟩, hlim.imp fun mc h => ⟨hideNs h.1, h.2⟩⟩
  have e0 : Env0 P w K mg (hidT s1.heap (H0 K a vs ns)) callerA [] s1 (H0 K a vs ns) := ⟨rfl, hM, fun b o e => of_hidT e, Nat.le_of_eq (hidT_size _ _), trivial, fun b z => (nomatch (show b ∈ ([] : List Addr) from z)), hok, PyProof.Rows.AllBare.of_eq hg⟩
  obtain ⟨fd, hb, Fg⟩ := F _ hKb (hideNs hns)
  have hrun := Fg.run callerA [] s1 (H0 K a vs ns) ⟨[.ref a], []⟩ [.ref a] [.ref a] _ _ rfl hr e0 (hb s1 [.ref a] KX rfl) (.cons rfl .nil) (hsp _ hS)
  refine codeAny_mono hrun fun r s' h => ?_
  cases r with
  | error e => exact h.elim
  | ok fl =>
    cases fl with
    | next => exact h.elim
    | brk => exact h.elim
    | cont => exact h.elim
    | ret u =>
      obtain ⟨v, H', os, bare, un, hok', rv', q⟩ := h
      subst q
      cases rv'
      refine ⟨rfl, OldK.of_keep fun b o e => ?_, os, bare⟩
      cases q : H0 K a vs ns b with
      | none => exact un.keep b o e q (fun z => nomatch (show b ∈ ([] : List Addr) from z)) (by simp)
      | some u =>
        obtain ⟨rfl, _, rfl⟩ := H0_some q
        have e1 := (hok _ _ q).1
        have e2 := (hok' _ _ (un.frzs _ _ _ q)).1
        rw [e] at e1
        cases e1
        exact e2
end
end K34
namespace K34
open PySem PySem.Spec L2

/-! ### what a reading evaluates to, behind any heap that keeps what is known -/
def EvP (te : TE) (σ : St) (H : Hp) (P : V → Hp → Prop) : Prop := ∀ H1, Same H H1 → ∀ Q : VK, (∀ v H2, Same H1 H2 → P v H2 → Q v H2) → te σ H1 Q
abbrev EvF (te : TE) (σ : St) (H : Hp) (k : NestedKey) : Prop := EvP te σ H fun v H2 => Fz H2 v k
abbrev EvV (te : TE) (σ : St) (H : Hp) (x : V) : Prop := EvP te σ H fun v _ => v = x
def EvT (tt : TT) (σ : St) (H : Hp) (b : Bool) : Prop := ∀ H1, Same H H1 → ∀ Q : Bool → Hp → Prop, (∀ H2, Same H1 H2 → Q b H2) → tt σ H1 Q
def EvA (ta : TA) (σ : St) (H : Hp) (P : List V → Hp → Prop) : Prop := ∀ H1, Same H H1 → ∀ Q : List V → Hp → Prop, (∀ vs H2, Same H1 H2 → P vs H2 → Q vs H2) → ta σ H1 Q
abbrev EvAF (ta : TA) (σ : St) (H : Hp) (ks : List NestedKey) : Prop := EvA ta σ H fun vs H2 => FzA H2 vs ks
def EvO (to : TO) (σ : St) (H : Hp) (o : Option Int) : Prop := ∀ H1, Same H H1 → ∀ Q : Option Int → Hp → Prop, (∀ H2, Same H1 H2 → Q o H2) → to σ H1 Q
def Keeps (P : V → Hp → Prop) : Prop := ∀ v H H', Same H H' → P v H → P v H'
/-- a list of frozen things -/
def LF (K : PySem.W.Frag) (H : Hp) (v : V) (ks : List NestedKey) : Prop := ∃ a xs, v = .ref a ∧ SqL K H a xs ∧ FzA H xs ks
/-- a list of our own of frozen things -/
def LN (H : Hp) (v : V) (ks : List NestedKey) : Prop := ∃ a xs, v = .ref a ∧ H a = some (.lst xs) ∧ FzA H xs ks
def LW (H0 H : Hp) (v : V) (ks : List NestedKey) : Prop := ∃ L ys, v = .ref L ∧ H0 L = none ∧ H L = some (.lst ys) ∧ FzA H ys ks
theorem LW.ln {H0 H : Hp} {v : V} {ks : List NestedKey} (h : LW H0 H v ks) : LN H v ks := let ⟨L, ys, e, _, q, f⟩ := h; ⟨L, ys, e, q, f⟩
theorem LW.back {H0 H1 H : Hp} {v : V} {ks : List NestedKey} (h : LW H1 H v ks) (s : Same H0 H1) : LW H0 H v ks := let ⟨L, ys, e, n, q, f⟩ := h; ⟨L, ys, e, s.free n, q, f⟩
theorem LN.lf {K : PySem.W.Frag} {H : Hp} {v : V} {ks : List NestedKey} (h : LN H v ks) : LF K H v ks := let ⟨a, xs, e, q, f⟩ := h; ⟨a, xs, e, .inl (.inl q), f⟩
theorem LN.sm {H H' : Hp} {v : V} {ks : List NestedKey} (h : LN H v ks) (s : Same H H') : LN H' v ks := let ⟨a, xs, e, q, f⟩ := h; ⟨a, xs, e, s _ _ q, f.sm s⟩
theorem LF.sm {K : PySem.W.Frag} {H H' : Hp} {v : V} {ks : List NestedKey} (h : LF K H v ks) (s : Same H H') : LF K H' v ks := let ⟨a, xs, e, q, f⟩ := h; ⟨a, xs, e, s.seq q, f.sm s⟩
theorem seqT_sm {K : PySem.W.Frag} {H H' : Hp} {a : Addr} {xs : List V} (e : Same H H') (h : SqT K H a xs) : SqT K H' a xs := by
  rcases h with h | h
  · rcases h with h | ⟨o, h⟩
    · exact .inl (.inl (e _ _ h))
    · exact .inl (.inr ⟨o, e _ _ h⟩)
  · exact .inr h
theorem sqT_of {K : PySem.W.Frag} {H : Hp} {a : Addr} {xs : List V} (h : H a = some (.tup xs)) : SqT K H a xs := .inl (.inl h)
theorem sqL_of {K : PySem.W.Frag} {H : Hp} {a : Addr} {xs : List V} (h : H a = some (.lst xs)) : SqL K H a xs := .inl (.inl h)
theorem EvP.sm {te : TE} {σ : St} {H H' : Hp} {P : V → Hp → Prop} (h : EvP te σ H P) (s : Same H H') : EvP te σ H' P := fun H1 s1 => h H1 (s.trans s1)
theorem EvT.sm {te : TT} {σ : St} {H H' : Hp} {P : Bool} (h : EvT te σ H P) (s : Same H H') : EvT te σ H' P := fun H1 s1 => h H1 (s.trans s1)
theorem EvA.sm {te : TA} {σ : St} {H H' : Hp} {P : List V → Hp → Prop} (h : EvA te σ H P) (s : Same H H') : EvA te σ H' P := fun H1 s1 => h H1 (s.trans s1)
theorem EvP.imp {te : TE} {σ : St} {H : Hp} {P R : V → Hp → Prop} (h : EvP te σ H P) (f : ∀ v H', Same H H' → P v H' → R v H') : EvP te σ H R := fun H1 s1 Q q => h H1 s1 Q fun v H2 s2 p => q v H2 s2 (f v H2 (s1.trans s2) p)
theorem EvT.of {tt : TT} {σ : St} {H : Hp} {b c : Bool} (h : EvT tt σ H b) (e : b = c) : EvT tt σ H c := e ▸ h
theorem EvP.ofF {te : TE} {σ : St} {H : Hp} {k j : NestedKey} (h : EvF te σ H k) (e : k = j) : EvF te σ H j := e ▸ h
section
variable {K : PySem.W.Frag} {σ : St} {H : Hp} {te ta tb tc : TE} {t u : TA} {tt uu : TT} {P R S : V → Hp → Prop} {k j : NestedKey} {ks js : List NestedKey} {v x y : V}
theorem ev_var {i : Nat} (h : σ[i]? = some (some v)) : EvV (tVar i) σ H v := fun H1 _ Q q => ⟨v, h, q v H1 (Same.refl _) rfl⟩
theorem ef_var {i : Nat} (h : σ[i]? = some (some v)) (f : Fz H v k) : EvF (tVar i) σ H k := fun H1 s Q q => ⟨v, h, q v H1 (Same.refl _) (f.sm s)⟩
theorem ep_var {i : Nat} (h : σ[i]? = some (some v)) (kp : Keeps P) (f : P v H) : EvP (tVar i) σ H P := fun H1 s Q q => ⟨v, h, q v H1 (Same.refl _) (kp v H H1 s f)⟩
theorem ev_c : EvV (tC v) σ H v := fun H1 _ Q q => q v H1 (Same.refl _) rfl
theorem ef_c (f : Fz H v k) : EvF (tC v) σ H k := fun H1 s Q q => q v H1 (Same.refl _) (f.sm s)
theorem ef_int {i : Int} : EvF (tC (.int i)) σ H (.num i) := ef_c (.int i)
theorem ef_str {i : Str} : EvF (tC (.str i)) σ H (.text i) := ef_c (.str i)
theorem ef_non : EvF (tC .non) σ H .none := ef_c .non
theorem ev_of_int {i : Int} (h : EvF te σ H (.num i)) : EvV te σ H (.int i) := h.imp fun v H' _ f => f.int_inv
theorem ev_of_str {i : Str} (h : EvF te σ H (.text i)) : EvV te σ H (.str i) := h.imp fun v H' _ f => f.str_inv
theorem ef_of_int {i : Int} (h : EvV te σ H (.int i)) : EvF te σ H (.num i) := h.imp fun v H' _ f => by subst f; exact .int i
theorem ef_of_str {i : Str} (h : EvV te σ H (.str i)) : EvF te σ H (.text i) := h.imp fun v H' _ f => by subst f; exact .str i
theorem ea_nil : EvAF tNil σ H [] := fun H1 _ Q q => q [] H1 (Same.refl _) .nil
theorem ea_cons (h : EvF te σ H k) (r : EvAF t σ H ks) : EvAF (tCons te t) σ H (k :: ks) := fun H1 s Q q => h H1 s _ fun v H2 s2 f => r H2 (s.trans s2) _ fun vs H3 s3 g => q (v :: vs) H3 (s2.trans s3) (.cons (f.sm s3) g)
theorem ef_tup (h : EvAF t σ H ks) (hz : ks.length ≤ 1000 := by first | decide | simp | omega) : EvF (tTup t) σ H (.tup ks) := fun H1 s Q q => h H1 s _ fun vs H2 s2 f =>
  ⟨Nat.le_trans (by rw [f.length]; exact hz) (by decide), fun p hp => q _ _ (s2.trans (Same.new hp)) (.tup upd_same (f.sm (Same.new hp)))⟩
theorem el_lst (h : EvAF t σ H ks) (hz : ks.length ≤ 1000 := by first | decide | simp | omega) : EvP (tLst t) σ H fun v H2 => LN H2 v ks := fun H1 s Q q => h H1 s _ fun vs H2 s2 f =>
  ⟨Nat.le_trans (by rw [f.length]; exact hz) (by decide), fun p hp => q _ _ (s2.trans (Same.new hp)) ⟨p, vs, rfl, upd_same, f.sm (Same.new hp)⟩⟩
theorem FzA.atI {H : Hp} {ks : List NestedKey} {vs : List V} {i : Int} {k : NestedKey} (f : FzA H vs ks) (h : L2.atI ks i = some k) : ∃ v, L2.atI vs i = some v ∧ Fz H v k := by
  unfold L2.atI at h ⊢
  rw [f.length]
  cases e : ixN ks.length i with
  | none => rw [e] at h; cases h
  | some m =>
    rw [e] at h
    obtain ⟨v, hv, q⟩ := f.getK h
    exact ⟨v, hv, q⟩
theorem ef_ix {i : Int} (ha : EvF ta σ H (.tup ks)) (hb : EvV tb σ H (.int i)) (h : L2.atI ks i = some k) : EvF (tOp (rIxT K) ta tb) σ H k := fun H1 s Q q => ha H1 s _ fun v H2 s2 f => hb H2 (s.trans s2) _ fun w H3 s3 e => by
  subst e
  obtain ⟨a, xs, rfl, hx, g⟩ := f.tup_inv
  obtain ⟨z, hz, gz⟩ := (g.sm s3).atI h
  exact ⟨a, xs, i, z, rfl, rfl, sqT_of (s3 _ _ hx), hz, q z H3 (s2.trans s3) gz⟩
/-- an item of a list -/
theorem ef_ixL {i : Int} (ha : EvP ta σ H fun v H2 => LF K H2 v ks) (hb : EvV tb σ H (.int i)) (h : L2.atI ks i = some k) : EvF (tOp (rIxL K) ta tb) σ H k := fun H1 s Q q => ha H1 s _ fun v H2 s2 f => hb H2 (s.trans s2) _ fun w H3 s3 e => by
  subst e
  obtain ⟨a, xs, rfl, hx, g⟩ := f.sm s3
  obtain ⟨z, hz, gz⟩ := g.atI h
  exact ⟨a, xs, i, z, rfl, rfl, hx, hz, q z H3 (s2.trans s3) gz⟩
def cutK (ks : List NestedKey) (lo hi : Option Int) : List NestedKey := (ks.drop (HT.sIx ks.length 0 lo)).take (HT.sIx ks.length ks.length hi - HT.sIx ks.length 0 lo)
theorem eo_none : EvO tNoPart σ H none := fun H1 _ Q q => q H1 (Same.refl _)
theorem eo_some {i : Int} (h : EvV te σ H (.int i)) : EvO (tPart te) σ H (some i) := fun H1 s Q q => h H1 s _ fun v H2 s2 e => ⟨i, e, q H2 s2⟩
theorem ef_sl {tl th : TO} {lo hi : Option Int} (ha : EvF te σ H (.tup ks)) (hl : EvO tl σ H lo) (hh : EvO th σ H hi) : EvF (tSl (rSlA K) te tl th) σ H (.tup (cutK ks lo hi)) := fun H1 s Q q => ha H1 s _ fun v H2 s2 f =>
  hl H2 (s.trans s2) _ fun H3 s3 => hh H3 ((s.trans s2).trans s3) _ fun H4 s4 => by
    obtain ⟨a, xs, rfl, hx, g⟩ := f.tup_inv
    have e4 := s4 _ _ (s3 _ _ hx)
    have g4 := (g.sm s3).sm s4
    have g5 : FzA H4 (cutV xs lo hi) (cutK ks lo hi) := g4.cut lo hi
    refine ⟨a, xs, rfl, sqT_of e4, fun hw => q _ H4 (s2.trans (s3.trans s4)) ?_, fun hw p hp => q _ _ ((s2.trans (s3.trans s4)).trans (Same.new hp)) (.tup upd_same (g5.sm (Same.new hp)))⟩
    have e : cutK ks lo hi = ks := by
      unfold cutK
      rw [← g4.length, hw.1, hw.2, List.drop_zero, Nat.sub_zero, g4.length, List.take_length]
    rw [e]
    exact .tup e4 g4
theorem ef_cat (ha : EvF ta σ H (.tup ks)) (hb : EvF tb σ H (.tup js)) (hz : ks.length + js.length ≤ 100000) : EvF (tOp (rCatA K) ta tb) σ H (.tup (ks ++ js)) := fun H1 s Q q => ha H1 s _ fun v H2 s2 f => hb H2 (s.trans s2) _ fun w H3 s3 f2 => by
  obtain ⟨a, xs, rfl, hx, g⟩ := (f.sm s3).tup_inv
  obtain ⟨b, ys, rfl, hy, g2⟩ := f2.tup_inv
  refine ⟨a, b, xs, ys, rfl, rfl, sqT_of hx, sqT_of hy, Nat.le_trans (by rw [g.length, g2.length]; exact hz) (by decide), fun e => ?_, fun e e2 => ?_, fun e e2 p hp => ?_⟩
  · subst e
    cases g
    exact q _ H3 (s2.trans s3) (.tup hy g2)
  · subst e2
    cases g2
    exact q _ H3 (s2.trans s3) (by rw [List.append_nil]; exact .tup hx g)
  · exact q _ _ ((s2.trans s3).trans (Same.new hp)) (.tup upd_same ((g.append g2).sm (Same.new hp)))
theorem ev_op {r : R2} (ha : EvV ta σ H x) (hb : EvV tb σ H y) (hr : ∀ H2 (Q : VK), Q v H2 → r x y H2 Q) : EvV (tOp r ta tb) σ H v := fun H1 s Q q => ha H1 s _ fun _ H2 s2 e => hb H2 (s.trans s2) _ fun _ H3 s3 e2 => by
  subst e e2
  exact hr H3 Q (q _ H3 (s2.trans s3) rfl)
theorem ev_eqT (ha : EvF ta σ H (.tup ks)) (hb : EvF tb σ H (.tup js)) (hd : (NestedKey.tup ks).depth ≤ 8) : EvV (tOp rEqT ta tb) σ H (.bl (decide (ks = js))) := fun H1 s Q q => ha H1 s _ fun v H2 s2 f => hb H2 (s.trans s2) _ fun w H3 s3 f2 =>
  ⟨ks, js, f.sm s3, f2, hd, q _ H3 (s2.trans s3) rfl⟩
theorem ev_neT (ha : EvF ta σ H (.tup ks)) (hb : EvF tb σ H (.tup js)) (hd : (NestedKey.tup ks).depth ≤ 8) : EvV (tOp rNeT ta tb) σ H (.bl (!decide (ks = js))) := fun H1 s Q q => ha H1 s _ fun v H2 s2 f => hb H2 (s.trans s2) _ fun w H3 s3 f2 =>
  ⟨ks, js, f.sm s3, f2, hd, q _ H3 (s2.trans s3) rfl⟩
theorem ev_eqI {a b : Int} (ha : EvV ta σ H (.int a)) (hb : EvV tb σ H (.int b)) : EvV (tOp rEq ta tb) σ H (.bl (decide (a = b))) := ev_op ha hb fun H2 Q q => ⟨rfl, by rw [show decide (V.int a = V.int b) = decide (a = b) from by simp]; exact q⟩
theorem ev_neI {a b : Int} (ha : EvV ta σ H (.int a)) (hb : EvV tb σ H (.int b)) : EvV (tOp rNe ta tb) σ H (.bl (!decide (a = b))) := ev_op ha hb fun H2 Q q => ⟨rfl, by rw [show decide (V.int a = V.int b) = decide (a = b) from by simp]; exact q⟩
theorem ev_eqS {a b : Str} (ha : EvV ta σ H (.str a)) (hb : EvV tb σ H (.str b)) : EvV (tOp rEq ta tb) σ H (.bl (decide (a = b))) := ev_op ha hb fun H2 Q q => ⟨rfl, by rw [show decide (V.str a = V.str b) = decide (a = b) from by simp]; exact q⟩
theorem ev_neS {a b : Str} (ha : EvV ta σ H (.str a)) (hb : EvV tb σ H (.str b)) : EvV (tOp rNe ta tb) σ H (.bl (!decide (a = b))) := ev_op ha hb fun H2 Q q => ⟨rfl, by rw [show decide (V.str a = V.str b) = decide (a = b) from by simp]; exact q⟩
theorem ev_I0 {g : Int → Int → V} {a b : Int} (ha : EvV ta σ H (.int a)) (hb : EvV tb σ H (.int b)) : EvV (tOp (rI0 g) ta tb) σ H (g a b) := ev_op ha hb fun H2 Q q => ⟨a, b, rfl, rfl, q⟩
theorem ev_I {C : Int → Int → Prop} {g : Int → Int → V} {a b : Int} (ha : EvV ta σ H (.int a)) (hb : EvV tb σ H (.int b)) (c : C a b) : EvV (tOp (rI C g) ta tb) σ H (g a b) := ev_op ha hb fun H2 Q q => ⟨a, b, rfl, rfl, c, q⟩
/-- k in a tuple -/
theorem ev_inT (ha : EvF ta σ H k) (hd : k.depth ≤ 8) (hb : EvF tb σ H (.tup ks)) : EvV (tOp (rInK K) ta tb) σ H (.bl (decide (k ∈ ks))) := fun H1 s Q q => ha H1 s _ fun v H2 s2 f => hb H2 (s.trans s2) _ fun w H3 s3 f2 => by
  obtain ⟨a, xs, rfl, hx, g⟩ := f2.tup_inv
  exact ⟨k, ks, a, xs, f.sm s3, hd, rfl, .inr (sqT_of hx), g, q _ H3 (s2.trans s3) rfl⟩
theorem ev_notInL (ha : EvF ta σ H k) (hd : k.depth ≤ 8) (hb : EvP tb σ H fun v H2 => LF K H2 v ks) : EvV (tOp (rNotInK K) ta tb) σ H (.bl (!decide (k ∈ ks))) := fun H1 s Q q => ha H1 s _ fun v H2 s2 f => hb H2 (s.trans s2) _ fun w H3 s3 f2 => by
  obtain ⟨a, xs, rfl, hx, g⟩ := f2
  exact ⟨k, ks, a, xs, f.sm s3, hd, rfl, hx, g, q _ H3 (s2.trans s3) rfl⟩
theorem ev_inL (ha : EvF ta σ H k) (hd : k.depth ≤ 8) (hb : EvP tb σ H fun v H2 => LF K H2 v ks) : EvV (tOp (rInK K) ta tb) σ H (.bl (decide (k ∈ ks))) := fun H1 s Q q => ha H1 s _ fun v H2 s2 f => hb H2 (s.trans s2) _ fun w H3 s3 f2 => by
  obtain ⟨a, xs, rfl, hx, g⟩ := f2
  exact ⟨k, ks, a, xs, f.sm s3, hd, rfl, .inl hx, g, q _ H3 (s2.trans s3) rfl⟩
theorem et_test {b : Bool} (h : EvV te σ H (.bl b)) : EvT (tTest te) σ H b := fun H1 s Q q => h H1 s _ fun v H2 s2 e => ⟨b, e, q H2 s2⟩
theorem et_B {b : Bool} (h : EvV te σ H (.bl b)) : EvT (tB te) σ H b := fun H1 s Q q => h H1 s _ fun v H2 s2 e => ⟨b, e, q H2 s2⟩
theorem et_yes : EvT tYes σ H true := fun H1 _ Q q => q H1 (Same.refl _)
theorem et_and {a b : Bool} (h1 : EvT tt σ H a) (h2 : a = true → EvT uu σ H b) : EvT (tAnd tt uu) σ H (a && b) := fun H1 s Q q => h1 H1 s _ fun H2 s2 => by
  cases a with
  | true => exact h2 rfl H2 (s.trans s2) Q fun H3 s3 => q H3 (s2.trans s3)
  | false => exact q H2 s2
theorem et_or {a b : Bool} (h1 : EvT tt σ H a) (h2 : a = false → EvT uu σ H b) : EvT (tOr tt uu) σ H (a || b) := fun H1 s Q q => h1 H1 s _ fun H2 s2 => by
  cases a with
  | false => exact h2 rfl H2 (s.trans s2) Q fun H3 s3 => q H3 (s2.trans s3)
  | true => exact q H2 s2
theorem et_not {a : Bool} (h1 : EvT tt σ H a) : EvT (tNot tt) σ H (!a) := fun H1 s Q q => h1 H1 s _ fun H2 s2 => q H2 s2
theorem ev_andV {a b : Bool} (h1 : EvV ta σ H (.bl a)) (h2 : a = true → EvV tb σ H (.bl b)) : EvV (tAndV ta tb) σ H (.bl (a && b)) := fun H1 s Q q => h1 H1 s _ fun v H2 s2 e => ⟨a, e, by
  cases a with
  | true => exact h2 rfl H2 (s.trans s2) Q fun v H3 s3 e => q v H3 (s2.trans s3) e
  | false => exact q _ H2 s2 rfl⟩
theorem ev_orV {a b : Bool} (h1 : EvV ta σ H (.bl a)) (h2 : a = false → EvV tb σ H (.bl b)) : EvV (tOrV ta tb) σ H (.bl (a || b)) := fun H1 s Q q => h1 H1 s _ fun v H2 s2 e => ⟨a, e, by
  cases a with
  | false => exact h2 rfl H2 (s.trans s2) Q fun v H3 s3 e => q v H3 (s2.trans s3) e
  | true => exact q _ H2 s2 rfl⟩
theorem ev_notV {a : Bool} (h1 : EvV ta σ H (.bl a)) : EvV (tNotV ta) σ H (.bl (!a)) := fun H1 s Q q => h1 H1 s _ fun v H2 s2 e => ⟨a, e, q _ H2 s2 rfl⟩
theorem ep_if {b : Bool} (h : EvT tt σ H b) (h1 : b = true → EvP ta σ H P) (h2 : b = false → EvP tb σ H P) : EvP (tIf tt ta tb) σ H P := fun H1 s Q q => h H1 s _ fun H2 s2 => by
  cases b with
  | true => exact h1 rfl H2 (s.trans s2) Q fun v H3 s3 => q v H3 (s2.trans s3)
  | false => exact h2 rfl H2 (s.trans s2) Q fun v H3 s3 => q v H3 (s2.trans s3)

/-! ### defs that leave all that is known: their promise says what they give -/
/-- frozen data in, something out -/
def rsp (r : List NestedKey → Option (V → Hp → Prop)) : Sp := fun vs H Q _ => ∃ ks P, FzA H vs ks ∧ r ks = some P ∧ ∀ v H', Same H H' → P v H' → Q v H'
/-- frozen data in, frozen data out -/
def fsp (r : List NestedKey → Option NestedKey) : Sp := fun vs H Q _ => ∃ ks k, FzA H vs ks ∧ r ks = some k ∧ ∀ v H', Same H H' → Fz H' v k → Q v H'
theorem ef_call {r : List NestedKey → Option NestedKey} {E : XK} (h : EvAF t σ H ks) (e : r ks = some k) : EvF (tCall (fsp r) [] E t) σ H k := fun H1 s Q q => h H1 s _ fun vs H2 s2 f =>
  ⟨ks, k, by rw [List.append_nil]; exact f, e, fun v H3 s3 g => q v H3 (s2.trans s3) g⟩
theorem ep_call {r : List NestedKey → Option (V → Hp → Prop)} {E : XK} (h : EvAF t σ H ks) (e : r ks = some P) : EvP (tCall (rsp r) [] E t) σ H P := fun H1 s Q q => h H1 s _ fun vs H2 s2 f =>
  ⟨ks, P, by rw [List.append_nil]; exact f, e, fun v H3 s3 g => q v H3 (s2.trans s3) g⟩

/-! ### comprehensions that leave all that is known -/
theorem pairedKeep {α β : Type} {F G : α → β → Prop} (h : ∀ a b, F a b → G a b) : ∀ {xs : List α} {ys : List β}, Paired F xs ys → Paired G xs ys
  | _, _, .nil => .nil
  | _, _, .cons a r => .cons (h _ _ a) (pairedKeep h r)
theorem FzA.paired {H : Hp} : ∀ {vs : List V} {ks : List NestedKey}, FzA H vs ks → Paired (fun v k => Fz H v k) vs ks
  | _, _, .nil => .nil
  | _, _, .cons a r => .cons a r.paired
theorem FzA.of_paired {H : Hp} : ∀ {vs : List V} {ks : List NestedKey}, Paired (fun v k => Fz H v k) vs ks → FzA H vs ks
  | _, _, .nil => .nil
  | _, _, .cons a r => .cons a (FzA.of_paired r)
section
variable {ι α : Type} {g : TG} {D : Addr} {tl : TE} {vs : List Nat}
/-- one turn's promise, and what the new list holds behind n turns -/
def LcI (H0 : Hp) (R : Hp → V → α → Prop) (D : Addr) (out : List α) (H : Hp) : Prop := H0 D = none ∧ Same H0 H ∧ ∃ ys, H D = some (.lst ys) ∧ Paired (R H) ys out
theorem lc_turn {H0 H : Hp} {R : Hp → V → α → Prop} {out : List α} {b : Bool} {e : α} {σ2 : St} (mono : ∀ H H' y a, Same H H' → R H y a → R H' y a) (hR : ∀ H H' D ys zs y a, H D = some (.lst ys) → H' = upd H D (.lst zs) → R H y a → R H' y a) (i : LcI H0 R D out H) (hz : out.length < 100000)
    (ht : EvT tt σ2 H0 b) (he : b = true → EvP te σ2 H0 fun v H' => R H' v e) :
    tt σ2 H fun c H3 => if c = true then te σ2 H3 fun y H4 => ∃ acc, H4 D = some (.lst acc) ∧ acc.length < sizeLine ∧ LcI H0 R D (out ++ if b then [e] else []) (upd H4 D (.lst (acc ++ [y]))) else LcI H0 R D (out ++ if b then [e] else []) H3 := by
  obtain ⟨d0, s0, ys, hd, hp⟩ := i
  refine ht H s0 _ fun H3 s3 => ?_
  cases b with
  | false =>
    refine ⟨d0, s0.trans s3, ys, s3 _ _ hd, ?_⟩
    have e0 : (out ++ if false = true then [e] else []) = out := by simp
    rw [e0]
    exact pairedKeep (fun a b q => mono _ _ _ _ s3 q) hp
  | true =>
    refine he rfl H3 (s0.trans s3) _ fun y H4 s4 r => ⟨ys, s4 _ _ (s3 _ _ hd), Nat.lt_of_lt_of_le (by rw [Paired.length hp]; exact hz) (by decide), d0, ?_, _, upd_same, ?_⟩
    · intro b o q
      rw [upd_ne (ne_of_none q d0)]
      exact s4 _ _ (s3 _ _ (s0 _ _ q))
    · have hd4 := s4 _ _ (s3 _ _ hd)
      refine Paired.snoc (pairedKeep (fun a b q => hR H4 _ D ys _ _ _ hd4 rfl (mono _ _ _ _ (s3.trans s4) q)) hp) (hR H4 _ D ys _ _ _ hd4 rfl r)
theorem take_succ_map {p : ι → Bool} {e : ι → α} {is : List ι} {n : Nat} {i : ι} (h : is[n]? = some i) : ((is.take (n + 1)).filter p).map e = ((is.take n).filter p).map e ++ if p i then [e i] else [] := by
  rw [List.take_add_one, h]
  simp only [Option.toList_some, List.filter_append, List.map_append]
  congr 1
  cases hp : p i <;> simp [hp]
/-- what is asked of a block -/
structure LcB (σ : St) (H : Hp) (S : V → ι → Prop) (R : Hp → V → α → Prop) (g : TG) (tt : TT) (te : TE) (vs : List Nat) (p : ι → Bool) (e : ι → α) (is : List ι) : Prop where
  mono : ∀ H H' y a, Same H H' → R H y a → R H' y a
  own : ∀ H H' D ys zs y a, H D = some (.lst ys) → H' = upd H D (.lst zs) → R H y a → R H' y a
  turn : ∀ x i, i ∈ is → S x i → ∀ H1, Same H H1 → ∃ σ2, wipe σ2 vs = wipe σ vs ∧ (∀ H' (Q : St → Hp → Prop), Same H1 H' → Q σ2 H' → g x (wipe σ vs) H' Q) ∧ EvT tt σ2 H1 (p i) ∧ (p i = true → EvP te σ2 H1 fun v H' => R H' v (e i))
theorem lc_at {H1 H' : Hp} {S : V → ι → Prop} {R : Hp → V → α → Prop} {p : ι → Bool} {e : ι → α} {is : List ι} {n : Nat} {x : V} {i : ι} (B : LcB σ H S R g tt te vs p e is) (s1 : Same H H1) (hz : is.length ≤ 90000) (hi : is[n]? = some i) (hs : S x i)
    (q : LcI H1 R D (((is.take n).filter p).map e) H') : g x (wipe σ vs) H' fun σ2 H2 => wipe σ2 vs = wipe σ vs ∧ tt σ2 H2 fun b H3 =>
      if b = true then te σ2 H3 fun y H4 => ∃ acc, H4 D = some (.lst acc) ∧ acc.length < sizeLine ∧ LcI H1 R D (((is.take (n + 1)).filter p).map e) (upd H4 D (.lst (acc ++ [y]))) else LcI H1 R D (((is.take (n + 1)).filter p).map e) H3 := by
  obtain ⟨σ2, w, hg, ht, he⟩ := B.turn x i (List.mem_of_getElem? hi) hs H1 s1
  refine hg H' _ q.2.1 ⟨w, ?_⟩
  rw [take_succ_map hi]
  refine lc_turn B.mono B.own q ?_ ht he
  have h1 : ((is.take n).filter p).length ≤ (is.take n).length := List.length_filter_le _ _
  rw [List.length_take] at h1
  rw [List.length_map]
  omega
theorem ep_lcT {S : V → ι → Prop} {R : Hp → V → α → Prop} {p : ι → Bool} {e : ι → α} {is : List ι} {xs : List V} (hl : EvP tl σ H fun v H2 => ∃ a, v = .ref a ∧ SqT K H2 a xs) (hx : Paired S xs is) (hz : is.length ≤ 90000) (B : LcB σ H S R g tt te vs p e is) :
    EvP (tLc (iTup K tl) g tt te vs) σ H fun v H2 => ∃ D ys, v = .ref D ∧ H D = none ∧ H2 D = some (.lst ys) ∧ Paired (R H2) ys ((is.filter p).map e) := fun H0 s Q q => hl H0 s _ fun v H1 s1 ⟨a, ev, ha⟩ => ⟨a, ev, ⟨xs, ha⟩, fun Dl hD =>
  lc_tup (xs := xs) (fun n H' => LcI H1 R Dl (((is.take n).filter p).map e) H') ⟨hD, Same.new hD, [], upd_same, .nil⟩ (fun n H' _ i => seqT_sm i.2.1 ha) (fun n x H' hn i => by
      obtain ⟨y, hy, sy⟩ := paired_get hx hn
      exact lc_at B (s.trans s1) hz hy sy i)
    (fun H' i => by
      obtain ⟨hD0, s2, ys, h2, h3⟩ := i
      have el : xs.length = is.length := Paired.length hx
      rw [el, List.take_length] at h3
      exact q _ H' (s1.trans s2) ⟨Dl, ys, rfl, s.free (s1.free hD0), h2, h3⟩)⟩
theorem ep_lcL {S : V → ι → Prop} {R : Hp → V → α → Prop} {p : ι → Bool} {e : ι → α} {is : List ι} {xs : List V} (hl : EvP tl σ H fun v H2 => ∃ a, v = .ref a ∧ SqL K H2 a xs) (hx : Paired S xs is) (hz : is.length ≤ 90000) (B : LcB σ H S R g tt te vs p e is) :
    EvP (tLc (iList K tl) g tt te vs) σ H fun v H2 => ∃ D ys, v = .ref D ∧ H D = none ∧ H2 D = some (.lst ys) ∧ Paired (R H2) ys ((is.filter p).map e) := fun H0 s Q q => hl H0 s _ fun v H1 s1 ⟨a, ev, ha⟩ => ⟨a, ev, ⟨xs, ha⟩, fun Dl hD =>
  lc_list (xs := xs) (fun n H' => LcI H1 R Dl (((is.take n).filter p).map e) H') ⟨hD, Same.new hD, [], upd_same, .nil⟩ (fun n H' _ i => i.2.1.seq ha) (fun n x H' hn i => by
      obtain ⟨y, hy, sy⟩ := paired_get hx hn
      exact lc_at B (s.trans s1) hz hy sy i)
    (fun H' i => by
      obtain ⟨hD0, s2, ys, h2, h3⟩ := i
      have el : xs.length = is.length := Paired.length hx
      rw [el, List.take_length] at h3
      exact q _ H' (s1.trans s2) ⟨Dl, ys, rfl, s.free (s1.free hD0), h2, h3⟩)⟩
end
end
end K34
namespace K34
open PySem PySem.Spec L2

/-! ### the text by places -/
def top (i : Nat) : Stmt := PySem.Challenge.pw_cardsback_k34_whole_last_is_last.main.body.getD i (.Pass ⟨0, 0, 0, 0⟩)
abbrev s_page_day : Stmt := top 8
abbrev s_page_kind : Stmt := top 9
abbrev s_names_of : Stmt := top 10
abbrev s_place_of : Stmt := top 11
abbrev s_in_order : Stmt := top 12
abbrev s_with_page : Stmt := top 14
abbrev s_up_to : Stmt := top 15
abbrev s_Houses_init : Stmt := inClass (top 17) 0
abbrev s_Houses_can : Stmt := inClass (top 17) 1
abbrev s_Houses_come : Stmt := inClass (top 17) 2
abbrev s_Houses_do : Stmt := inClass (top 17) 3
abbrev s_Houses_meet : Stmt := inClass (top 17) 4
abbrev s_Houses_ask_standing : Stmt := inClass (top 17) 5
abbrev s_houses_behind : Stmt := top 18
abbrev s_home_of : Stmt := top 19
abbrev s_idle : Stmt := top 20
abbrev s_stays : Stmt := top 24
abbrev s_term_of : Stmt := top 25
abbrev s_Walk_init : Stmt := inClass (top 26) 0
abbrev s_Walk_mourns : Stmt := inClass (top 26) 1
abbrev s_Walk_is_met : Stmt := inClass (top 26) 2
abbrev s_Walk_go : Stmt := inClass (top 26) 3
abbrev s_Walk_part : Stmt := inClass (top 26) 4
abbrev s_Walk_join : Stmt := inClass (top 26) 5
abbrev s_Walk_lay : Stmt := inClass (top 26) 6
abbrev s_Walk_put : Stmt := inClass (top 26) 7
abbrev s_Walk_fall : Stmt := inClass (top 26) 8
abbrev s_Walk_go_to : Stmt := inClass (top 26) 9
abbrev s_Walk_places : Stmt := inClass (top 26) 10
abbrev s_Walk_dues_told : Stmt := inClass (top 26) 11
abbrev s_walked : Stmt := top 27
abbrev s_dues : Stmt := top 28
abbrev s_marks : Stmt := top 29
abbrev s_left : Stmt := top 31
abbrev s_last_known : Stmt := top 32
abbrev s_last : Stmt := top 33
abbrev s_would : Stmt := top 35
abbrev s_owes : Stmt := top 37
abbrev s_rude_papers : Stmt := top 39
abbrev s_rude : Stmt := top 40
abbrev s_L_feed : Stmt := top 42
abbrev s_L_draw : Stmt := top 43
abbrev s_L_names : Stmt := top 44
abbrev s_L_home : Stmt := top 45
abbrev s_L_page : Stmt := top 46
abbrev s_L_rank : Stmt := top 47
abbrev s_L_standing_so : Stmt := top 48
abbrev s_L_book : Stmt := top 49
abbrev s_L_case : Stmt := top 50
abbrev s_L_stands : Stmt := top 51
abbrev s_L_paying : Stmt := top 52
abbrev s_L_due_right : Stmt := top 53
abbrev s_law : Stmt := top 54

/-! ### defs of the text, and that they keep a promise -/
structure Dat (K : PySem.W.Frag) (mg : Str → Option Value) (x qual : Str) (st : Stmt) (ps : List Str) : Prop where
  ex : ∃ f fd, mg x = some (.ref f) ∧ PySem.W.keepIn K (.ref f) = true ∧ FunD K x qual (defArgs st) (defBody st) (defScope st) [] [] f fd ∧ Binds K fd ps []
structure OK (P : Program) (w : World) (K : PySem.W.Frag) (mg : Str → Option Value) (base : Heap) (k : Nat) (x : Str) (ps : List Str) (sp : Sp) : Prop where
  ex : ∃ f fd, mg x = some (.ref f) ∧ PySem.W.keepIn K (.ref f) = true ∧ Binds K fd ps [] ∧ FnOk P w K mg base CX0 k f fd ps sp
structure Mat (K : PySem.W.Frag) (C : Addr) (x qual : Str) (st : Stmt) (ps : List Str) : Prop where
  ex : ∃ f fd, Meth K C x f ∧ FunD K x qual (defArgs st) (defBody st) (defScope st) [] [] f fd ∧ Binds K fd ps []
structure MOK (P : Program) (w : World) (K : PySem.W.Frag) (mg : Str → Option Value) (base : Heap) (k : Nat) (C : Addr) (x : Str) (ps : List Str) (sp : Sp) : Prop where
  ex : ∃ f fd, Meth K C x f ∧ Binds K fd ps [] ∧ FnOk P w K mg base CX0 k f fd ps sp
structure Cat (K : PySem.W.Frag) (mg : Str → Option Value) (C : Addr) (x qual : Str) (st : Stmt) (ps : List Str) : Prop where
  ex : mg x = some (.ref C) ∧ ∃ f fd, Mk K C f ∧ FunD K "__init__" qual (defArgs st) (defBody st) (defScope st) [] [] f fd ∧ Binds K fd ps []
structure COK (P : Program) (w : World) (K : PySem.W.Frag) (mg : Str → Option Value) (base : Heap) (k : Nat) (C : Addr) (x : Str) (ps : List Str) (sp : Sp) : Prop where
  ex : mg x = some (.ref C) ∧ ∃ f fd, Mk K C f ∧ Binds K fd ps [] ∧ FnOk P w K mg base CX0 k f fd ps sp
section
variable {P : Program} {w : World} {K : PySem.W.Frag} {mg : Str → Option Value} {base : Heap} {x qual : Str} {st : Stmt} {ps N : List Str} {k : Nat} {C : Addr} {sp : Sp}
theorem ok_mk (D : Dat K mg x qual st ps) (S : FnScope N ps (defScope st)) (len : ∀ vs H Q E, sp vs H Q E → vs.length = ps.length)
    (hbody : ∀ (f : Addr) (cdv : Value) (A : Around) (outer : List Env) (s : Shared) (H : Hp) (vs : List V) (Q : VK) (E : XK), Room k (A.deeper (PyProof.Rows.envOfC qual (defScope st) s.heap.objs.size f cdv)) → sp vs H Q E →
      ∃ t, PSs (cxOf CX0 P w K mg base N qual (defScope st) f cdv A outer s H E).nox (defBody st) t ∧ t { nx := fun _ H' => Q .non H', rt := Q } (start N vs) H) : OK P w K mg base (k + 1) x ps sp :=
  let ⟨f, fd, h1, h2, h3, h4⟩ := D.ex
  ⟨f, fd, h1, h2, h4, h3.ok S len fun cdv A outer s H vs Q E hr hsp => let ⟨t, h, q⟩ := hbody f cdv A outer s H vs Q E hr hsp; ⟨t, h.nox, q⟩⟩
theorem mok_mk (D : Mat K C x qual st ps) (S : FnScope N ps (defScope st)) (len : ∀ vs H Q E, sp vs H Q E → vs.length = ps.length)
    (hbody : ∀ (f : Addr) (cdv : Value) (A : Around) (outer : List Env) (s : Shared) (H : Hp) (vs : List V) (Q : VK) (E : XK), Room k (A.deeper (PyProof.Rows.envOfC qual (defScope st) s.heap.objs.size f cdv)) → sp vs H Q E →
      ∃ t, PSs (cxOf CX0 P w K mg base N qual (defScope st) f cdv A outer s H E).nox (defBody st) t ∧ t { nx := fun _ H' => Q .non H', rt := Q } (start N vs) H) : MOK P w K mg base (k + 1) C x ps sp :=
  let ⟨f, fd, h1, h3, h4⟩ := D.ex
  ⟨f, fd, h1, h4, h3.ok S len fun cdv A outer s H vs Q E hr hsp => let ⟨t, h, q⟩ := hbody f cdv A outer s H vs Q E hr hsp; ⟨t, h.nox, q⟩⟩
theorem cok_mk (D : Cat K mg C x qual st ps) (S : FnScope N ps (defScope st)) (len : ∀ vs H Q E, sp vs H Q E → vs.length = ps.length)
    (hbody : ∀ (f : Addr) (cdv : Value) (A : Around) (outer : List Env) (s : Shared) (H : Hp) (vs : List V) (Q : VK) (E : XK), Room k (A.deeper (PyProof.Rows.envOfC qual (defScope st) s.heap.objs.size f cdv)) → sp vs H Q E →
      ∃ t, PSs (cxOf CX0 P w K mg base N qual (defScope st) f cdv A outer s H E).nox (defBody st) t ∧ t { nx := fun _ H' => Q .non H', rt := Q } (start N vs) H) : COK P w K mg base (k + 1) C x ps sp :=
  let ⟨h0, f, fd, h1, h3, h4⟩ := D.ex
  ⟨h0, f, fd, h1, h4, h3.ok S len fun cdv A outer s H vs Q E hr hsp => let ⟨t, h, q⟩ := hbody f cdv A outer s H vs Q E hr hsp; ⟨t, h.nox, q⟩⟩
end
section
variable {X : Cx} {k : Nat} {C : Addr} {x m : Str} {ps : List Str} {sp : Sp} {p pos apos : Pos} {e o : Expr} {es : List Expr} {t : TA} {ta : TE}
theorem px_call (G : OK X.prog X.w X.K X.mg X.base k x ps sp) (hr : Room k X.A) (hg : Gl X x) (ha : PA X (e :: es) t) (hdb : (x == ("__debug__" : Str)) = false := by decide)
    (he : starEach (e :: es) X.env = (false, eval e X.env) :: starEach es X.env := by rfl) (hpl : (backTo pos (starEach es X.env)).any (·.1) = false := by rfl) : PE X (.Call (.Name x p) (e :: es) [] pos) (tCall sp [] E0 t) :=
  let ⟨_, _, h1, h2, h3, h4⟩ := G.ex
  pe_call h4 hr hg h1 h2 h3 .nil L2.pass0 ha hdb he hpl
theorem px_make (G : COK X.prog X.w X.K X.mg X.base k C x ps sp) (hr : Room (k + 1) X.A) (hg : Gl X x) (ha : PA X (e :: es) t) (hdb : (x == ("__debug__" : Str)) = false := by decide)
    (he : starEach (e :: es) X.env = (false, eval e X.env) :: starEach es X.env := by rfl) (hpl : (backTo pos (starEach es X.env)).any (·.1) = false := by rfl) : PE X (.Call (.Name x p) (e :: es) [] pos) (tMake C sp [] E0 t) :=
  let ⟨h0, _, _, h1, h3, h4⟩ := G.ex
  pe_make h1 h4 hr hg h0 h3 .nil L2.pass0 ha hdb he hpl
theorem px_make0 (G : COK X.prog X.w X.K X.mg X.base k C x ps sp) (hr : Room (k + 1) X.A) (hg : Gl X x) (hdb : (x == ("__debug__" : Str)) = false := by decide) : PE X (.Call (.Name x p) [] [] pos) (tMake C sp [] E0 tNil) :=
  let ⟨h0, _, _, h1, h3, h4⟩ := G.ex
  pe_make0 h1 h4 hr hg h0 h3 .nil L2.pass0 hdb
theorem px_meth {pl : Sem Bool} (c : Cls X.K C) (G : MOK X.prog X.w X.K X.mg X.base k C m ps sp) (hr : Room k X.A) (he : PE X o ta) (ha : PA X (e :: es) t)
    (hst : starEach (e :: es) X.env = (false, eval e X.env) :: starEach es X.env := by rfl) (hpl : (backTo pos (starEach es X.env)).any (·.1) = false := by rfl)
    (ht : eval (.Call (.Attribute o m apos) (e :: es) [] pos) X.env = (do
      let ov ← eval o X.env
      standAt apos.atName
      let (f, first) ← holding [ov] (getMethod ov m pl)
      callWith pos f first (backTo pos (starEach (e :: es) X.env)) (backToKw pos (keywordEach [] X.env))) := by rfl) : PE X (.Call (.Attribute o m apos) (e :: es) [] pos) (tMeth C m sp [] E0 ta t) :=
  let ⟨_, _, h1, h3, h4⟩ := G.ex
  pe_meth he c h1 h4 hr h3 .nil L2.pass0 ha hst hpl ht
theorem px_meth0 {pl : Sem Bool} (c : Cls X.K C) (G : MOK X.prog X.w X.K X.mg X.base k C m ps sp) (hr : Room k X.A) (he : PE X o ta)
    (ht : eval (.Call (.Attribute o m apos) [] [] pos) X.env = (do
      let ov ← eval o X.env
      standAt apos.atName
      let (f, first) ← holding [ov] (getMethod ov m pl)
      callWith pos f first (backTo pos (starEach [] X.env)) (backToKw pos (keywordEach [] X.env))) := by rfl) : PE X (.Call (.Attribute o m apos) [] [] pos) (tMeth C m sp [] E0 ta tNil) :=
  let ⟨_, _, h1, h3, h4⟩ := G.ex
  pe_meth0 he c h1 h4 hr h3 .nil L2.pass0 ht
end
def rLenK (K : PySem.W.Frag) : List V → Hp → VK → Prop := fun xs H Q => ∃ p ys, xs = [.ref p] ∧ (SqL K H p ys ∨ SqT K H p ys) ∧ Q (.int ys.length) H
theorem call_lenK {X : Cx} : CallR X (.builtin "len") (rLenK X.K) := call_len_seq
theorem b_any : bootBuiltins "any" = some (.builtin "any") := by decide +kernel
theorem b_all : bootBuiltins "all" = some (.builtin "all") := by decide +kernel
theorem b_min : bootBuiltins "min" = some (.builtin "min") := by decide +kernel
theorem b_sorted : bootBuiltins "sorted" = some (.builtin "sorted") := by decide +kernel
theorem b_repr : bootBuiltins "repr" = some (.builtin "repr") := by decide +kernel
theorem b_len : bootBuiltins "len" = some (.builtin "len") := by decide +kernel
theorem b_tuple : bootBuiltins "tuple" = some (.type "tuple") := by decide +kernel
theorem b_list : bootBuiltins "list" = some (.type "list") := by decide +kernel
theorem b_dict : bootBuiltins "dict" = some (.type "dict") := by decide +kernel
theorem b_int : bootBuiltins "int" = some (.type "int") := by decide +kernel
def kindsL : List Str := ["house", "part", "join", "home", "mourn", "ahead", "card", "visit"]
def aloneL : List Str := ["house", "home", "mourn"]
def goingsL : List Str := ["card", "visit"]
def txs (l : List Str) : List NestedKey := l.map .text
/-- what the top has written, besides defs -/
structure Txt (K : PySem.W.Frag) (mg : Str → Option Value) (CH CW aK aA aG : Addr) : Prop where
  clH : Cls K CH
  clW : Cls K CW
  noH : ∀ f ∈ (["homes", "parents", "joined", "mourned", "idle_pages"] : List Str), NoAttr K CH f
  noW : ∀ f ∈ (["own_pages", "own_terms", "lost", "homes", "mourned", "sorts", "falls", "marks", "answers", "made", "copied", "struck", "merged"] : List Str), NoAttr K CW f
  len : mg "len" = none
  any : mg "any" = none
  all : mg "all" = none
  sorted : mg "sorted" = none
  tuple : mg "tuple" = none
  list : mg "list" = none
  dict : mg "dict" = none
  range : mg "range" = none
  enumerate : mg "enumerate" = none
  int : mg "int" = none
  min : mg "min" = none
  repr : mg "repr" = none
  week : ∃ t, mg "WEEK" = some (.int 7 t)
  kinds : mg "KINDS" = some (.ref aK)
  alone : mg "ALONE" = some (.ref aA)
  goings : mg "GOINGS" = some (.ref aG)
  sqK : ∀ H : Hp, SqT K H aK (kindsL.map V.str)
  tyK : ∃ o, K.lookup aK = some o ∧ o.cls = .type "tuple" ∧ o.dict = none
  sqA : ∀ H : Hp, SqT K H aA (aloneL.map V.str)
  sqG : ∀ H : Hp, SqT K H aG (goingsL.map V.str)
theorem FzA.strs {H : Hp} : ∀ l : List Str, FzA H (l.map V.str) (txs l)
  | [] => .nil
  | x :: l => .cons (.str x) (FzA.strs l)
section
variable {K : PySem.W.Frag} {σ : St} {H : Hp} {ta tb : TE} {k : NestedKey}
theorem ev_inG {l : List Str} {a : Addr} (ha : EvF ta σ H k) (hd : k.depth ≤ 8) (hb : EvV tb σ H (.ref a)) (hs : ∀ H : Hp, SqT K H a (l.map V.str)) : EvV (tOp (rInK K) ta tb) σ H (.bl (decide (k ∈ txs l))) := fun H1 s Q q => ha H1 s _ fun v H2 s2 f => hb H2 (s.trans s2) _ fun w H3 s3 e => by
  subst e
  exact ⟨k, txs l, a, _, f.sm s3, hd, rfl, .inr (hs H3), FzA.strs l, q _ H3 (s2.trans s3) rfl⟩
theorem atI_of {α : Type} {ks : List α} {n : Nat} {k : α} (h : ks[n]? = some k) : L2.atI ks (n : Int) = some k := by
  have hl : n < ks.length := (List.getElem?_eq_some_iff.mp h).1
  unfold L2.atI ixN
  rw [if_pos (by omega), if_pos (by omega)]
  simpa using h
end
/-- as fsp, what is given told by a relation -/
def fspR (R : List NestedKey → NestedKey → Prop) : Sp := fun vs H Q _ => ∃ ks k, FzA H vs ks ∧ R ks k ∧ ∀ v H', Same H H' → Fz H' v k → Q v H'
def rspR (R : List NestedKey → (V → Hp → Prop) → Prop) : Sp := fun vs H Q _ => ∃ ks P, FzA H vs ks ∧ R ks P ∧ ∀ v H', Same H H' → P v H' → Q v H'
section
variable {σ : St} {H : Hp} {t : TA} {ks : List NestedKey} {k : NestedKey} {E : XK}
theorem ef_callR {R : List NestedKey → NestedKey → Prop} (h : EvAF t σ H ks) (e : R ks k) : EvF (tCall (fspR R) [] E t) σ H k := fun H1 s Q q => h H1 s _ fun vs H2 s2 f =>
  ⟨ks, k, by rw [List.append_nil]; exact f, e, fun v H3 s3 g => q v H3 (s2.trans s3) g⟩
theorem ep_callR {R : List NestedKey → (V → Hp → Prop) → Prop} {P : V → Hp → Prop} (h : EvAF t σ H ks) (e : R ks P) : EvP (tCall (rspR R) [] E t) σ H P := fun H1 s Q q => h H1 s _ fun vs H2 s2 f =>
  ⟨ks, P, by rw [List.append_nil]; exact f, e, fun v H3 s3 g => q v H3 (s2.trans s3) g⟩
end
/-! ### statements -/
section
variable {σ : St} {H : Hp} {te : TE} {tt : TT} {P : V → Hp → Prop} {D : Ends} {tu tw tz : TS}
theorem s_ret (h : EvP te σ H P) (k : ∀ v H1, Same H H1 → P v H1 → D.rt v H1) : tRet te D σ H := h H (Same.refl _) _ k
theorem s_asg {i : Nat} (h : EvP te σ H P) (k : ∀ v H1, Same H H1 → P v H1 → D.nx (σ.set i (some v)) H1) : tAsg te (gName i) D σ H := h H (Same.refl _) _ k
theorem q_asg {i : Nat} (h : EvP te σ H P) (k : ∀ v H1, Same H H1 → P v H1 → tz D (σ.set i (some v)) H1) : tSeq (tAsg te (gName i)) tz D σ H := h H (Same.refl _) _ k
theorem s_if {b : Bool} (h : EvT tt σ H b) (h1 : b = true → ∀ H1, Same H H1 → tu D σ H1) (h2 : b = false → ∀ H1, Same H H1 → tw D σ H1) : tIfS tt tu tw D σ H := h H (Same.refl _) _ fun H1 s => by
  cases b with
  | true => exact h1 rfl H1 s
  | false => exact h2 rfl H1 s
theorem q_if {b : Bool} (h : EvT tt σ H b) (h1 : b = true → ∀ H1, Same H H1 → tu { D with nx := tz D } σ H1) (h2 : b = false → ∀ H1, Same H H1 → tw { D with nx := tz D } σ H1) : tSeq (tIfS tt tu tw) tz D σ H := s_if (D := { D with nx := tz D }) h h1 h2
theorem s_drop (h : EvP te σ H P) (k : ∀ v H1, Same H H1 → P v H1 → D.nx σ H1) : tDrop te D σ H := h H (Same.refl _) _ k
end

/-! ### the first defs of pages -/
section
variable {P : Program} {w : World} {K : PySem.W.Frag} {mg : Str → Option Value} {base : Heap}
def r_at (n : Nat) : List NestedKey → Option NestedKey
  | [.tup ks] => ks[n]?
  | _ => none
theorem FzA.one_inv {H : Hp} {vs : List V} {k : NestedKey} (h : FzA H vs [k]) : ∃ v, vs = [v] ∧ Fz H v k := by
  cases h with
  | cons a r => cases r; exact ⟨_, rfl, a⟩
theorem r_at_inv {n : Nat} {ks : List NestedKey} {k : NestedKey} (h : r_at n ks = some k) : ∃ js, ks = [.tup js] ∧ js[n]? = some k := by
  unfold r_at at h
  split at h
  · exact ⟨_, rfl, h⟩
  · cases h
theorem sc_page_day : FnScope ["page"] ["page"] (defScope s_page_day) := ⟨rfl, rfl, rfl, by decide +kernel, rfl, by decide +kernel, by decide +kernel⟩
theorem ok_page_day (D : Dat K mg "page_day" "page_day" s_page_day ["page"]) : OK P w K mg base 1 "page_day" ["page"] (fsp (r_at 1)) := by
  refine ok_mk D sc_page_day (fun vs H Q E h => ?_) (fun f cdv A outer s H vs Q E hr h => ?_)
  · obtain ⟨ks, k, f, e, _⟩ := h
    obtain ⟨js, rfl, _⟩ := r_at_inv e
    exact f.length
  · obtain ⟨ks, k, f, e, q⟩ := h
    obtain ⟨js, rfl, e⟩ := r_at_inv e
    obtain ⟨v, rfl, f1⟩ := f.one_inv
    refine ⟨_, pss_one (ps_ret (pe_ix ix_tup (pv 0) pe_int (fun _ _ => rfl))), ?_⟩
    exact s_ret (ef_ix (ef_var rfl f1) ev_c (atI_of e)) q
end
end K34
namespace K34
open PySem PySem.Spec L2

/-! ### pages, in plain Lean -/
inductive Page
  | house (d : Int) (a : Str) (h : List Int)
  | part (d : Int) (a b : Str) (h : List Int)
  | join (d : Int) (a b : Str)
  | home (d : Int) (a : Str) (h : List Int)
  | mourn (d : Int) (a : Str) (n : Int)
  | ahead (d : Int) (a b : Str)
  | going (v : Bool) (d : Int) (a b : Str)
  deriving DecidableEq
namespace Page
def kind : Page → Str
  | .house _ _ _ => "house"
  | .part _ _ _ _ => "part"
  | .join _ _ _ => "join"
  | .home _ _ _ => "home"
  | .mourn _ _ _ => "mourn"
  | .ahead _ _ _ => "ahead"
  | .going v _ _ _ => if v then "visit" else "card"
def kix : Page → Nat
  | .house _ _ _ => 0
  | .part _ _ _ _ => 1
  | .join _ _ _ => 2
  | .home _ _ _ => 3
  | .mourn _ _ _ => 4
  | .ahead _ _ _ => 5
  | .going v _ _ _ => if v then 7 else 6
def day : Page → Int
  | .house d _ _ => d
  | .part d _ _ _ => d
  | .join d _ _ => d
  | .home d _ _ => d
  | .mourn d _ _ => d
  | .ahead d _ _ => d
  | .going _ d _ _ => d
def one : Page → Str
  | .house _ a _ => a
  | .part _ a _ _ => a
  | .join _ a _ => a
  | .home _ a _ => a
  | .mourn _ a _ => a
  | .ahead _ a _ => a
  | .going _ _ a _ => a
def rest : Page → List NestedKey
  | .house _ _ h => [.tup (ik h)]
  | .part _ _ b h => [.text b, .tup (ik h)]
  | .join _ _ b => [.text b]
  | .home _ _ h => [.tup (ik h)]
  | .mourn _ _ n => [.num n]
  | .ahead _ _ b => [.text b]
  | .going _ _ _ b => [.text b]
def items (p : Page) : List NestedKey := .text p.kind :: .num p.day :: .text p.one :: p.rest
def key (p : Page) : NestedKey := .tup p.items
end Page
theorem sne (a b : String) (h : Str.ofString a ≠ Str.ofString b := by decide +kernel) : Str.ofString a ≠ Str.ofString b := h
theorem num_inj : ∀ {a b : List Int}, ik a = ik b → a = b
  | [], [], _ => rfl
  | [], _ :: _, h => by cases h
  | _ :: _, [], h => by cases h
  | a :: as, b :: bs, h => by
    unfold ik at h
    rw [List.map_cons, List.map_cons] at h
    injection h with h1 h2
    injection h1 with h1
    rw [h1, num_inj h2]
theorem kix_kind : ∀ p : Page, kindsL[p.kix]? = some p.kind ∧ ∀ m, m < p.kix → kindsL[m]? ≠ some p.kind := by
  have K : ∀ i, i < 8 → ∀ m, m < i → kindsL[m]? ≠ kindsL[i]? := by decide +kernel
  have go : ∀ p : Page, p.kix < 8 ∧ kindsL[p.kix]? = some p.kind := by
    intro p
    cases p with
    | going v d a b => cases v <;> exact ⟨by simp [Page.kix], rfl⟩
    | _ => exact ⟨by simp [Page.kix], rfl⟩
  intro p
  refine ⟨(go p).2, fun m hm => ?_⟩
  rw [← (go p).2]
  exact K _ (go p).1 m hm
theorem kind_kix {p q : Page} (h : p.kind = q.kind) : p.kix = q.kix := by
  have a := kix_kind p
  have b := kix_kind q
  rw [← h] at b
  rcases Nat.lt_trichotomy p.kix q.kix with l | l | l
  · exact absurd a.1 (b.2 _ l)
  · exact l
  · exact absurd b.1 (a.2 _ l)
theorem kix_key {p q : Page} (h1 : p.kix = q.kix) (h2 : p.day = q.day) (h3 : p.one = q.one) (h4 : p.rest = q.rest) : p = q := by
  cases p <;> cases q
  case going.going v d a b v' d' a' b' =>
    cases v <;> cases v'
    · injection h4 with h4; injection h4 with h4; exact congr (congr (congr rfl h2) h3) h4
    · simp [Page.kix] at h1
    · simp [Page.kix] at h1
    · injection h4 with h4; injection h4 with h4; exact congr (congr (congr rfl h2) h3) h4
  case house.house => injection h4 with h4; injection h4 with h4; exact congr (congr (congrArg _ h2) h3) (num_inj h4)
  case home.home => injection h4 with h4; injection h4 with h4; exact congr (congr (congrArg _ h2) h3) (num_inj h4)
  case mourn.mourn => injection h4 with h4; injection h4 with h4; exact congr (congr (congrArg _ h2) h3) h4
  case join.join => injection h4 with h4; injection h4 with h4; exact congr (congr (congrArg _ h2) h3) h4
  case ahead.ahead => injection h4 with h4; injection h4 with h4; exact congr (congr (congrArg _ h2) h3) h4
  case part.part =>
    injection h4 with h4 h5
    injection h4 with h4
    injection h5 with h5
    injection h5 with h5
    exact congr (congr (congr (congrArg _ h2) h3) h4) (num_inj h5)
  all_goals (simp only [Page.kix] at h1; first | omega | (split at h1 <;> omega))
theorem Page.key_inj {p q : Page} (h : p.key = q.key) : p = q := by
  injection h with h
  injection h with h1 h
  injection h with h2 h
  injection h with h3 h4
  injection h1 with h1
  injection h2 with h2
  injection h3 with h3
  exact kix_key (kind_kix h1) h2 h3 h4
theorem ik_depth (l : List Int) : NestedKey.depthAll (ik l) = 0 := by
  induction l with
  | nil => rfl
  | cons a l ih => show max (NestedKey.depth (.num a)) (NestedKey.depthAll (ik l)) = 0; rw [ih]; rfl
theorem Page.rest_depth (p : Page) : NestedKey.depthAll p.rest ≤ 1 := by
  cases p <;> simp [Page.rest, NestedKey.depthAll, NestedKey.depth, ik_depth]
theorem Page.depth (p : Page) : p.key.depth ≤ 2 := by
  have := p.rest_depth
  simp [Page.key, Page.items, NestedKey.depthAll, NestedKey.depth]
  omega
/-- the rank of a page's key -/
def skOf : NestedKey → SK
  | .tup (.text k :: .num d :: r) => (d, ((kindsL.idxOf k : Nat) : Int), .tup r)
  | _ => (0, 0, .none)
theorem idx_kix (p : Page) : kindsL.idxOf p.kind = p.kix := by
  have K : ∀ i, i < 8 → ∀ k, kindsL[i]? = some k → kindsL.idxOf k = i := by
    intro i hi k hk
    have : ∀ i, i < 8 → (kindsL[i]?.map fun k => kindsL.idxOf k) = some i := by decide +kernel
    have q := this i hi
    rw [hk] at q
    exact Option.some.inj q
  have h8 : p.kix < 8 := by
    cases p with
    | going v d a b => cases v <;> simp [Page.kix]
    | _ => simp [Page.kix]
  exact K _ h8 _ (kix_kind p).1
theorem skOf_key (p : Page) : skOf p.key = (p.day, (p.kix : Int), .tup (.text p.one :: p.rest)) := by
  show (p.day, ((kindsL.idxOf p.kind : Nat) : Int), NestedKey.tup (.text p.one :: p.rest)) = _
  rw [idx_kix]
def IsPage (k : NestedKey) : Prop := ∃ p : Page, k = p.key
open PySem.W (alike alikeAll) in
theorem alike_ik (a b : List Int) : alikeAll (NestedKey.datas (ik a)) (NestedKey.datas (ik b)) = true := by
  induction a generalizing b with
  | nil => simp [ik, NestedKey.datas, PySem.W.alikeAll]
  | cons x a ih =>
    cases b with
    | nil => simp [ik, NestedKey.datas, PySem.W.alikeAll]
    | cons y b =>
      have := ih b
      simp only [ik] at this
      simp [ik, NestedKey.datas, NestedKey.data, PySem.W.alikeAll, PySem.W.alike, this]
theorem pages_alike (ks : List NestedKey) (h : ∀ k ∈ ks, IsPage k) : SkAlike (ks.map skOf) := by
  intro x hx y hy e
  obtain ⟨k, hk, rfl⟩ := List.mem_map.mp hx
  obtain ⟨j, hj, rfl⟩ := List.mem_map.mp hy
  obtain ⟨p, rfl⟩ := h k hk
  obtain ⟨q, rfl⟩ := h j hj
  rw [skOf_key, skOf_key] at e ⊢
  have e : (p.kix : Int) = (q.kix : Int) := e
  have e : p.kix = q.kix := by omega
  show PySem.W.alike (NestedKey.data (.tup (.text p.one :: p.rest))) (NestedKey.data (.tup (.text q.one :: q.rest))) = true
  cases p <;> cases q
  case going.going v _ _ _ v' _ _ _ => simp [Page.rest, NestedKey.data, NestedKey.datas, PySem.W.alike, PySem.W.alikeAll]
  case house.house => simp [Page.rest, NestedKey.data, NestedKey.datas, PySem.W.alike, PySem.W.alikeAll, alike_ik]
  case home.home => simp [Page.rest, NestedKey.data, NestedKey.datas, PySem.W.alike, PySem.W.alikeAll, alike_ik]
  case part.part => simp [Page.rest, NestedKey.data, NestedKey.datas, PySem.W.alike, PySem.W.alikeAll, alike_ik]
  case mourn.mourn => simp [Page.rest, NestedKey.data, NestedKey.datas, PySem.W.alike, PySem.W.alikeAll]
  case join.join => simp [Page.rest, NestedKey.data, NestedKey.datas, PySem.W.alike, PySem.W.alikeAll]
  case ahead.ahead => simp [Page.rest, NestedKey.data, NestedKey.datas, PySem.W.alike, PySem.W.alikeAll]
  all_goals (simp only [Page.kix] at e; first | omega | (split at e <;> omega))
theorem sk_depth (k : NestedKey) (h : IsPage k) : (skOf k).2.2.depth ≤ 6 := by
  obtain ⟨p, rfl⟩ := h
  rw [skOf_key]
  have := p.rest_depth
  simp [NestedKey.depthAll, NestedKey.depth]
  omega

/-! ### dicts as lists of pairs -/
section
variable {κ α : Type} [DecidableEq κ]
def aget (l : List (κ × α)) (k : κ) : Option α := (l.find? fun e => decide (e.1 = k)).map (·.2)
def aput (l : List (κ × α)) (k : κ) (v : α) : List (κ × α) := if (l.any fun e => decide (e.1 = k)) = true then l.map (fun e => if e.1 = k then (e.1, v) else e) else l ++ [(k, v)]
def adrop (l : List (κ × α)) (k : κ) : List (κ × α) := l.filter fun e => decide (e.1 ≠ k)
theorem aget_nil {k : κ} : aget ([] : List (κ × α)) k = none := rfl
theorem aget_cons (e : κ × α) (l : List (κ × α)) (k : κ) : aget (e :: l) k = if e.1 = k then some e.2 else aget l k := by
  unfold aget
  rw [List.find?_cons]
  by_cases h : e.1 = k <;> simp [h]
theorem aget_mem {l : List (κ × α)} {k : κ} {v : α} (h : aget l k = some v) : (k, v) ∈ l := by
  unfold aget at h
  cases q : l.find? (fun e => decide (e.1 = k)) with
  | none => rw [q] at h; cases h
  | some e =>
    rw [q] at h
    have h1 := List.mem_of_find?_eq_some q
    have h2 := List.find?_some q
    simp at h2
    cases h
    rw [← h2]
    exact h1
theorem aget_some {l : List (κ × α)} {k : κ} : (aget l k).isSome = true ↔ k ∈ l.map (·.1) := by
  induction l with
  | nil => simp [aget]
  | cons e l ih =>
    rw [aget_cons, List.map_cons, List.mem_cons]
    by_cases h : e.1 = k
    · simp [h]
    · rw [if_neg h, ih]
      constructor
      · exact fun z => .inr z
      · rintro (z | z)
        · exact absurd z.symm h
        · exact z
theorem aget_none {l : List (κ × α)} {k : κ} : aget l k = none ↔ k ∉ l.map (·.1) := by
  rw [← aget_some]
  cases aget l k <;> simp
theorem aget_of_mem {l : List (κ × α)} (nd : (l.map (·.1)).Nodup) {k : κ} {v : α} (h : (k, v) ∈ l) : aget l k = some v := by
  induction l with
  | nil => cases h
  | cons e l ih =>
    rw [List.map_cons, List.nodup_cons] at nd
    rw [aget_cons]
    rcases List.mem_cons.mp h with h | h
    · rw [← h, if_pos rfl]
    · have : e.1 ≠ k := fun z => nd.1 (z ▸ List.mem_map_of_mem (f := (·.1)) h)
      rw [if_neg this]
      exact ih nd.2 h
theorem any_key {l : List (κ × α)} {k : κ} : (l.any fun e => decide (e.1 = k)) = true ↔ k ∈ l.map (·.1) := by
  simp only [List.any_eq_true, decide_eq_true_eq, List.mem_map]
theorem aput_new {l : List (κ × α)} {k : κ} {v : α} (h : k ∉ l.map (·.1)) : aput l k v = l ++ [(k, v)] := by
  unfold aput
  rw [if_neg fun z => h (any_key.mp z)]
theorem aput_old {l : List (κ × α)} {k : κ} {v : α} (h : k ∈ l.map (·.1)) : aput l k v = l.map (fun e => if e.1 = k then (e.1, v) else e) := by
  unfold aput
  rw [if_pos (any_key.mpr h)]
theorem aput_keys (l : List (κ × α)) (k : κ) (v : α) : (aput l k v).map (·.1) = if k ∈ l.map (·.1) then l.map (·.1) else l.map (·.1) ++ [k] := by
  by_cases h : k ∈ l.map (·.1)
  · rw [if_pos h, aput_old h, List.map_map]
    refine List.map_congr_left fun e _ => ?_
    show (if e.1 = k then (e.1, v) else e).1 = e.1
    split <;> rfl
  · rw [if_neg h, aput_new h, List.map_append] <;> rfl
theorem aget_put (l : List (κ × α)) (k j : κ) (v : α) : aget (aput l k v) j = if j = k then some v else aget l j := by
  by_cases h : k ∈ l.map (·.1)
  · rw [aput_old h]
    induction l with
    | nil => cases h
    | cons e l ih =>
      rw [List.map_cons, aget_cons, aget_cons]
      by_cases h1 : e.1 = k
      · rw [if_pos h1]
        show (if e.1 = j then some v else aget _ j) = _
        by_cases h2 : j = k
        · rw [if_pos h2, if_pos (h1.trans h2.symm)]
        · rw [if_neg h2, if_neg (fun z => h2 (z.symm.trans h1)), if_neg (fun z => h2 (z.symm.trans h1))]
          by_cases h3 : k ∈ l.map (·.1)
          · rw [ih h3, if_neg h2]
          · have e0 : l.map (fun e => if e.1 = k then (e.1, v) else e) = l := by
              conv => rhs; rw [← List.map_id l]
              refine List.map_congr_left fun e he => ?_
              have q : ¬ e.1 = k := fun z => h3 (List.mem_map.mpr ⟨e, he, z⟩)
              rw [if_neg q] <;> rfl
            rw [e0]
      · rw [if_neg h1]
        have h4 : k ∈ l.map (·.1) := by
          rcases List.mem_cons.mp h with z | z
          · exact absurd z.symm h1
          · exact z
        by_cases h5 : e.1 = j
        · rw [if_pos h5, if_neg (fun z => h1 (h5.trans z)), if_pos h5]
        · rw [if_neg h5, if_neg h5, ih h4]
  · rw [aput_new h]
    induction l with
    | nil =>
      rw [List.nil_append, aget_cons, aget_nil]
      by_cases z : j = k
      · simp [z]
      · simp [z, show ¬ k = j from fun q => z q.symm]
    | cons e l ih =>
      rw [List.cons_append, aget_cons, aget_cons]
      have h6 : k ∉ l.map (·.1) := fun z => h (List.mem_cons_of_mem _ z)
      have h7 : e.1 ≠ k := fun z => h (z ▸ List.mem_cons_self)
      by_cases h5 : e.1 = j
      · rw [if_pos h5, if_neg (fun z => h7 (h5.trans z)), if_pos h5]
      · rw [if_neg h5, if_neg h5, ih h6]
theorem aput_nodup {l : List (κ × α)} {k : κ} {v : α} (h : (l.map (·.1)).Nodup) : ((aput l k v).map (·.1)).Nodup := by
  rw [aput_keys]
  split
  · exact h
  · rename_i q
    rw [List.nodup_append]
    exact ⟨h, by simp, fun a ha b hb e => by simp at hb; subst hb; subst e; exact q ha⟩
theorem adrop_nodup {l : List (κ × α)} {k : κ} (h : (l.map (·.1)).Nodup) : ((adrop l k).map (·.1)).Nodup := by
  unfold adrop
  exact (List.filter_sublist.map _).nodup h
theorem aget_drop (l : List (κ × α)) (k j : κ) : aget (adrop l k) j = if j = k then none else aget l j := by
  unfold adrop
  induction l with
  | nil => simp [aget]
  | cons e l ih =>
    rw [List.filter_cons, aget_cons]
    by_cases h : e.1 = k
    · rw [if_neg (by simp [h]), ih]
      by_cases h2 : j = k
      · rw [if_pos h2, if_pos h2]
      · rw [if_neg h2, if_neg h2, if_neg (fun z => h2 (z.symm.trans h))]
    · rw [if_pos (by simp [h]), aget_cons, ih]
      by_cases h3 : e.1 = j
      · rw [if_pos h3, if_neg (fun z => h (h3.trans z)), if_pos h3]
      · rw [if_neg h3, if_neg h3]
theorem aput_length (l : List (κ × α)) (k : κ) (v : α) : (aput l k v).length ≤ l.length + 1 := by
  unfold aput
  split
  · rw [List.length_map]; omega
  · rw [List.length_append]; exact Nat.le_refl _
theorem adrop_length (l : List (κ × α)) (k : κ) : (adrop l k).length ≤ l.length := List.length_filter_le _ _
end
/-- a dict's pairs kvs say l -/
abbrev DR {κ κ' α : Type} (f : κ → κ') (R : V → α → Prop) : List (κ' × V) → List (κ × α) → Prop := Paired fun p e => p.1 = f e.1 ∧ R p.2 e.2
section
variable {κ κ' α : Type} [DecidableEq κ] [DecidableEq κ'] {f : κ → κ'} {R S : V → α → Prop} {kvs : List (κ' × V)} {l : List (κ × α)}
theorem DR.imp (h : DR f R kvs l) (g : ∀ v a, R v a → S v a) : DR f S kvs l := pairedKeep (fun a b q => ⟨q.1, g _ _ q.2⟩) h
theorem DR.keys (h : DR f R kvs l) : kvs.map (·.1) = l.map fun e => f e.1 := by
  induction h with
  | nil => rfl
  | cons a _ ih => rw [List.map_cons, List.map_cons, a.1, ih]
theorem DR.get (hf : ∀ a b, f a = f b → a = b) (h : DR f R kvs l) (k : κ) : (aget l k = none ∧ valV kvs (f k) = none) ∨ ∃ a v, aget l k = some a ∧ valV kvs (f k) = some v ∧ R v a := by
  induction h with
  | nil => exact .inl ⟨rfl, rfl⟩
  | @cons p e kvs l q _ ih =>
    rw [aget_cons]
    by_cases h : e.1 = k
    · rw [if_pos h, valV_pos (by rw [q.1, h])]
      exact .inr ⟨_, _, rfl, rfl, q.2⟩
    · rw [if_neg h, valV_neg (by rw [q.1]; exact fun z => h (hf _ _ z))]
      exact ih
theorem DR.some (hf : ∀ a b, f a = f b → a = b) (h : DR f R kvs l) {k : κ} {a : α} (e : aget l k = some a) : ∃ v, valV kvs (f k) = some v ∧ R v a := by
  rcases h.get hf k with ⟨q, _⟩ | ⟨a', v, q, hv, r⟩
  · rw [e] at q; cases q
  · rw [e] at q; cases q; exact ⟨v, hv, r⟩
theorem DR.isSome (hf : ∀ a b, f a = f b → a = b) (h : DR f R kvs l) (k : κ) : (valV kvs (f k)).isSome = (aget l k).isSome := by
  rcases h.get hf k with ⟨q, q2⟩ | ⟨a', v, q, hv, r⟩
  · rw [q, q2] <;> rfl
  · rw [q, hv] <;> rfl
theorem DR.anyk (hf : ∀ a b, f a = f b → a = b) (h : DR f R kvs l) (k : κ) : (kvs.any fun kv => decide (kv.1 = f k)) = (l.any fun e => decide (e.1 = k)) := by
  induction h with
  | nil => rfl
  | @cons p e kvs l q _ ih =>
    rw [List.any_cons, List.any_cons, ih, q.1]
    by_cases h : e.1 = k
    · simp [h]
    · simp [h, show ¬ f e.1 = f k from fun z => h (hf _ _ z)]
theorem DR.put (hf : ∀ a b, f a = f b → a = b) (h : DR f R kvs l) {k : κ} {v : V} {a : α} (r : R v a) : DR f R (putK kvs (f k) v) (aput l k a) := by
  unfold putK aput
  rw [h.anyk hf k]
  split
  · rename_i hq
    clear hq
    induction h with
    | nil => exact .nil
    | @cons p e kvs l q _ ih =>
      rw [List.map_cons, List.map_cons]
      refine .cons ?_ ih
      by_cases h : e.1 = k
      · rw [if_pos h, if_pos (by rw [q.1, h])]
        exact ⟨q.1, r⟩
      · rw [if_neg h, if_neg (by rw [q.1]; exact fun z => h (hf _ _ z))]
        exact q
  · exact Paired.snoc h ⟨rfl, r⟩
theorem DR.drop (hf : ∀ a b, f a = f b → a = b) (h : DR f R kvs l) (k : κ) : DR f R (dropK kvs (f k)) (adrop l k) := by
  unfold dropK adrop
  induction h with
  | nil => exact .nil
  | @cons p e kvs l q _ ih =>
    rw [List.filter_cons, List.filter_cons]
    by_cases h : e.1 = k
    · rw [if_neg (by simp [q.1, h]), if_neg (by simp [h])]
      exact ih
    · rw [if_pos (by simp [q.1, show ¬ f e.1 = f k from fun z => h (hf _ _ z)]), if_pos (by simp [h])]
      exact .cons q ih
theorem DR.length (h : DR f R kvs l) : kvs.length = l.length := Paired.length h
end
end K34
namespace K34
open PySem PySem.Spec L2

/-! ### loops, from what their source evaluates to -/
section
variable {K : PySem.W.Frag} {σ : St} {H : Hp} {tl : TE} {g : TG} {tu tz : TS} {D : Ends} {ks : List NestedKey}
theorem s_forT (h : EvF tl σ H (.tup ks)) (k : ∀ a xs H1, Same H H1 → H1 a = some (.tup xs) → FzA H1 xs ks → ∃ Pv : Nat → St → Hp → Prop, Pv 0 σ H1 ∧ (∀ i σ' H', Pv i σ' H' → TK H1 H') ∧
      (∀ i j x σ' H', ks[i]? = some j → Fz H' x j → Pv i σ' H' → g x σ' H' fun σ2 H2 => tu { D with nx := Pv (i + 1), ct := Pv (i + 1), bk := D.nx } σ2 H2) ∧ (∀ σ' H', Pv ks.length σ' H' → D.nx σ' H')) : tFor (iTup K tl) g tu D σ H := by
  refine h H (Same.refl _) _ fun v H1 s f => ?_
  obtain ⟨a, xs, rfl, hx, fx⟩ := f.tup_inv
  obtain ⟨Pv, h0, tk, hs, hd⟩ := k a xs H1 s hx fx
  refine ⟨a, rfl, ⟨xs, sqT_of hx⟩, for_tup (xs := xs) Pv h0 (fun i σ' H' _ p => sqT_of (tk i σ' H' p _ _ hx)) (fun i x σ' H' hi p => ?_) (fun σ' H' p => hd σ' H' (by rw [← fx.length]; exact p))⟩
  obtain ⟨j, hj, fj⟩ := fx.get hi
  exact hs i j x σ' H' hj (fj.tk (tk i σ' H' p)) p
theorem q_forT (h : EvF tl σ H (.tup ks)) (k : ∀ a xs H1, Same H H1 → H1 a = some (.tup xs) → FzA H1 xs ks → ∃ Pv : Nat → St → Hp → Prop, Pv 0 σ H1 ∧ (∀ i σ' H', Pv i σ' H' → TK H1 H') ∧
      (∀ i j x σ' H', ks[i]? = some j → Fz H' x j → Pv i σ' H' → g x σ' H' fun σ2 H2 => tu { D with nx := Pv (i + 1), ct := Pv (i + 1), bk := tz D } σ2 H2) ∧ (∀ σ' H', Pv ks.length σ' H' → tz D σ' H')) : tSeq (tFor (iTup K tl) g tu) tz D σ H :=
  s_forT (D := { D with nx := tz D }) h k
/-- over a list that the body leaves as it is -/
theorem s_forL {P : V → Hp → Prop} (hP : ∀ v H, P v H → LF K H v ks) (h : EvP tl σ H P) (k : ∀ a xs H1, Same H H1 → P (.ref a) H1 → SqL K H1 a xs → FzA H1 xs ks → ∃ Pv : Nat → St → Hp → Prop, Pv 0 σ H1 ∧ (∀ i σ' H', Pv i σ' H' → TK H1 H' ∧ SqL K H' a xs) ∧
      (∀ i j x σ' H', ks[i]? = some j → Fz H' x j → Pv i σ' H' → g x σ' H' fun σ2 H2 => tu { D with nx := Pv (i + 1), ct := Pv (i + 1), bk := D.nx } σ2 H2) ∧ (∀ σ' H', Pv ks.length σ' H' → D.nx σ' H')) : tFor (iList K tl) g tu D σ H := by
  refine h H (Same.refl _) _ fun v H1 s f => ?_
  obtain ⟨a, xs, rfl, hx, fx⟩ := hP _ _ f
  obtain ⟨Pv, h0, tk, hs, hd⟩ := k a xs H1 s f hx fx
  refine ⟨a, rfl, ⟨xs, hx⟩, for_list (xs := xs) Pv h0 (fun i σ' H' _ p => (tk i σ' H' p).2) (fun i x σ' H' hi p => ?_) (fun σ' H' p => hd σ' H' (by rw [← fx.length]; exact p))⟩
  obtain ⟨j, hj, fj⟩ := fx.get hi
  exact hs i j x σ' H' hj (fj.tk (tk i σ' H' p).1) p
theorem q_forL {P : V → Hp → Prop} (hP : ∀ v H, P v H → LF K H v ks) (h : EvP tl σ H P) (k : ∀ a xs H1, Same H H1 → P (.ref a) H1 → SqL K H1 a xs → FzA H1 xs ks → ∃ Pv : Nat → St → Hp → Prop, Pv 0 σ H1 ∧ (∀ i σ' H', Pv i σ' H' → TK H1 H' ∧ SqL K H' a xs) ∧
      (∀ i j x σ' H', ks[i]? = some j → Fz H' x j → Pv i σ' H' → g x σ' H' fun σ2 H2 => tu { D with nx := Pv (i + 1), ct := Pv (i + 1), bk := tz D } σ2 H2) ∧ (∀ σ' H', Pv ks.length σ' H' → tz D σ' H')) : tSeq (tFor (iList K tl) g tu) tz D σ H :=
  s_forL (D := { D with nx := tz D }) hP h k
theorem s_forLa {a : Addr} {xs : List V} (h : EvV tl σ H (.ref a)) (fx : FzA H xs ks) (Pv : Nat → St → Hp → Prop) (h0 : ∀ H1, Same H H1 → Pv 0 σ H1) (tk : ∀ i σ' H', Pv i σ' H' → TK H H' ∧ SqL K H' a xs)
    (hs : ∀ i j x σ' H', ks[i]? = some j → Fz H' x j → Pv i σ' H' → g x σ' H' fun σ2 H2 => tu { D with nx := Pv (i + 1), ct := Pv (i + 1), bk := D.nx } σ2 H2) (hd : ∀ σ' H', Pv ks.length σ' H' → D.nx σ' H') : tFor (iList K tl) g tu D σ H := by
  refine h H (Same.refl _) _ fun v H1 s f => ?_
  subst f
  refine ⟨a, rfl, ⟨xs, (tk 0 _ _ (h0 H1 s)).2⟩, for_list (xs := xs) Pv (h0 H1 s) (fun i σ' H' _ p => (tk i σ' H' p).2) (fun i x σ' H' hi p => ?_) (fun σ' H' p => hd σ' H' (by rw [← fx.length]; exact p))⟩
  obtain ⟨j, hj, fj⟩ := fx.get hi
  exact hs i j x σ' H' hj (fj.tk (tk i σ' H' p).1) p
theorem q_forLa {a : Addr} {xs : List V} (h : EvV tl σ H (.ref a)) (fx : FzA H xs ks) (Pv : Nat → St → Hp → Prop) (h0 : ∀ H1, Same H H1 → Pv 0 σ H1) (tk : ∀ i σ' H', Pv i σ' H' → TK H H' ∧ SqL K H' a xs)
    (hs : ∀ i j x σ' H', ks[i]? = some j → Fz H' x j → Pv i σ' H' → g x σ' H' fun σ2 H2 => tu { D with nx := Pv (i + 1), ct := Pv (i + 1), bk := tz D } σ2 H2) (hd : ∀ σ' H', Pv ks.length σ' H' → tz D σ' H') : tSeq (tFor (iList K tl) g tu) tz D σ H :=
  s_forLa (D := { D with nx := tz D }) h fx Pv h0 tk hs hd
end
/-! ### more of evaluation -/
section
variable {K : PySem.W.Frag} {σ : St} {H : Hp} {te ta tb : TE} {t : TA} {ks : List NestedKey} {P : V → Hp → Prop}
/-- tuple(a list) -/
theorem ef_tupleL (h : EvP te σ H fun v H2 => LF K H2 v ks) : EvF (tCB (fun xs H Q => ∃ p ys, xs = [.ref p] ∧ ((SqL K H p ys ∧ ∀ l, H l = none → Q (.ref l) (upd H l (.tup ys))) ∨ (SqT K H p ys ∧ Q (.ref p) H))) (tCons te tNil)) σ H (.tup ks) := fun H1 s Q q => h H1 s _ fun v H2 s2 f => by
  obtain ⟨a, xs, rfl, hx, fx⟩ := f
  exact ⟨a, xs, rfl, .inl ⟨hx, fun l hl => q _ _ (s2.trans (Same.new hl)) (.tup upd_same (fx.sm (Same.new hl)))⟩⟩
theorem ev_lenT (h : EvF te σ H (.tup ks)) : EvV (tCB (rLenK K) (tCons te tNil)) σ H (.int ks.length) := fun H1 s Q q => h H1 s _ fun v H2 s2 f => by
  obtain ⟨a, xs, rfl, hx, fx⟩ := f.tup_inv
  exact ⟨a, xs, rfl, .inr (sqT_of hx), q _ _ s2 (by rw [fx.length])⟩
theorem ev_lenL (h : EvP te σ H fun v H2 => LF K H2 v ks) : EvV (tCB (rLenK K) (tCons te tNil)) σ H (.int ks.length) := fun H1 s Q q => h H1 s _ fun v H2 s2 f => by
  obtain ⟨a, xs, rfl, hx, fx⟩ := f
  exact ⟨a, xs, rfl, .inl hx, q _ _ s2 (by rw [fx.length])⟩
/-- [.. for x in a tuple if ..], frozen -/
theorem el_lcT {tl : TE} {tt : TT} {j : Nat} {vs : List Nat} {js : List NestedKey} (p : NestedKey → Bool) (e : NestedKey → NestedKey) (hl : EvF tl σ H (.tup js)) (hz : js.length ≤ 90000) (hw : ∀ x, wipe ((wipe σ vs).set j (some x)) vs = wipe σ vs)
    (ht : ∀ x k H1, k ∈ js → Same H H1 → Fz H1 x k → EvT tt ((wipe σ vs).set j (some x)) H1 (p k)) (he : ∀ x k H1, k ∈ js → Same H H1 → Fz H1 x k → p k = true → EvF te ((wipe σ vs).set j (some x)) H1 (e k)) :
    EvP (tLc (iTup K tl) (gName j) tt te vs) σ H fun v H2 => LW H H2 v ((js.filter p).map e) := fun H0 s Q q => hl H0 s _ fun v H1 s1 f => by
  obtain ⟨a, xs, rfl, hx, fx⟩ := f.tup_inv
  refine ep_lcT (tl := fun σ H Q => Q (.ref a) H) (H := H1) (S := fun x k => Fz H1 x k) (R := fun H y k => Fz H y k) (p := p) (e := e) (is := js) (xs := xs) (fun H2 s2 Q q => q _ H2 (Same.refl _) ⟨a, rfl, sqT_of (s2 _ _ hx)⟩) fx.paired hz
    ⟨fun H H' y a s q => q.sm s, fun H H' D ys zs y a h1 h2 q => by subst h2; exact q.tk (TK.upd fun xs z => by rw [h1] at z; cases z), fun x k hk fk H2 s2 => ⟨_, hw x, fun H' Q _ q => q, ht x k H2 hk (s.trans (s1.trans s2)) (fk.sm s2), fun hp => he x k H2 hk (s.trans (s1.trans s2)) (fk.sm s2) hp⟩⟩ H1 (Same.refl _) Q fun v H2 s2 ⟨D, ys, ev, hD0, hD, hp⟩ => q v H2 (s1.trans s2) ⟨D, ys, ev, s.free (s1.free hD0), hD, FzA.of_paired hp⟩
theorem el_lcL {tl : TE} {tt : TT} {j : Nat} {vs : List Nat} {js : List NestedKey} (p : NestedKey → Bool) (e : NestedKey → NestedKey) (hl : EvP tl σ H fun v H2 => LF K H2 v js) (hz : js.length ≤ 90000) (hw : ∀ x, wipe ((wipe σ vs).set j (some x)) vs = wipe σ vs)
    (ht : ∀ x k H1, k ∈ js → Same H H1 → Fz H1 x k → EvT tt ((wipe σ vs).set j (some x)) H1 (p k)) (he : ∀ x k H1, k ∈ js → Same H H1 → Fz H1 x k → p k = true → EvF te ((wipe σ vs).set j (some x)) H1 (e k)) :
    EvP (tLc (iList K tl) (gName j) tt te vs) σ H fun v H2 => LW H H2 v ((js.filter p).map e) := fun H0 s Q q => hl H0 s _ fun v H1 s1 f => by
  obtain ⟨a, xs, rfl, hx, fx⟩ := f
  refine ep_lcL (tl := fun σ H Q => Q (.ref a) H) (H := H1) (S := fun x k => Fz H1 x k) (R := fun H y k => Fz H y k) (p := p) (e := e) (is := js) (xs := xs) (fun H2 s2 Q q => q _ H2 (Same.refl _) ⟨a, rfl, s2.seq hx⟩) fx.paired hz
    ⟨fun H H' y a s q => q.sm s, fun H H' D ys zs y a h1 h2 q => by subst h2; exact q.tk (TK.upd fun xs z => by rw [h1] at z; cases z), fun x k hk fk H2 s2 => ⟨_, hw x, fun H' Q _ q => q, ht x k H2 hk (s.trans (s1.trans s2)) (fk.sm s2), fun hp => he x k H2 hk (s.trans (s1.trans s2)) (fk.sm s2) hp⟩⟩ H1 (Same.refl _) Q fun v H2 s2 ⟨D, ys, ev, hD0, hD, hp⟩ => q v H2 (s1.trans s2) ⟨D, ys, ev, s.free (s1.free hD0), hD, FzA.of_paired hp⟩
/-- the same of truth values -/
theorem el_lcTb {tl : TE} {j : Nat} {vs : List Nat} {js : List NestedKey} (e : NestedKey → Bool) (hl : EvF tl σ H (.tup js)) (hz : js.length ≤ 90000) (hw : ∀ x, wipe ((wipe σ vs).set j (some x)) vs = wipe σ vs)
    (he : ∀ x k H1, k ∈ js → Same H H1 → Fz H1 x k → EvV te ((wipe σ vs).set j (some x)) H1 (.bl (e k))) :
    EvP (tLc (iTup K tl) (gName j) tYes te vs) σ H fun v H2 => ∃ a, v = .ref a ∧ SqL K H2 a ((js.map e).map V.bl) := fun H0 s Q q => hl H0 s _ fun v H1 s1 f => by
  obtain ⟨a, xs, rfl, hx, fx⟩ := f.tup_inv
  refine ep_lcT (tl := fun σ H Q => Q (.ref a) H) (H := H1) (S := fun x k => Fz H1 x k) (R := fun H y (b : Bool) => y = .bl b) (p := fun _ => true) (e := e) (is := js) (xs := xs) (fun H2 s2 Q q => q _ H2 (Same.refl _) ⟨a, rfl, sqT_of (s2 _ _ hx)⟩) fx.paired hz
    ⟨fun H H' y a s q => q, fun H H' D ys zs y a h1 h2 q => q, fun x k hk fk H2 s2 => ⟨_, hw x, fun H' Q _ q => q, et_yes, fun hp => he x k H2 hk (s.trans (s1.trans s2)) (fk.sm s2)⟩⟩ H1 (Same.refl _) Q fun v H2 s2 ⟨D, ys, ev, _, hD, hp⟩ => q v H2 (s1.trans s2) ⟨D, ev, ?_⟩
  have e1 : ∀ {ys : List V} {bs : List Bool}, Paired (fun y (b : Bool) => y = V.bl b) ys bs → ys = bs.map V.bl := by
    intro ys bs h
    induction h with
    | nil => rfl
    | cons a _ ih => rw [a, ih] <;> rfl
  have e2 : (js.filter fun _ => true) = js := List.filter_eq_self.mpr fun _ _ => rfl
  rw [e2] at hp
  rw [← e1 hp]
  exact sqL_of hD
theorem ev_all {bs : List Bool} (h : EvP te σ H fun v H2 => ∃ a, v = .ref a ∧ SqL K H2 a (bs.map V.bl)) : EvV (tCB (rAll K) (tCons te tNil)) σ H (.bl (bs.all id)) := fun H1 s Q q => h H1 s _ fun v H2 s2 ⟨a, e, h⟩ => ⟨a, bs, by rw [e] <;> rfl, h, q _ _ s2 rfl⟩
theorem ev_any {bs : List Bool} (h : EvP te σ H fun v H2 => ∃ a, v = .ref a ∧ SqL K H2 a (bs.map V.bl)) : EvV (tCB (rAny K) (tCons te tNil)) σ H (.bl (bs.any id)) := fun H1 s Q q => h H1 s _ fun v H2 s2 ⟨a, e, h⟩ => ⟨a, bs, by rw [e] <;> rfl, h, q _ _ s2 rfl⟩
end
theorem FzA.two_inv {H : Hp} {vs : List V} {k j : NestedKey} (h : FzA H vs [k, j]) : ∃ v w, vs = [v, w] ∧ Fz H v k ∧ Fz H w j := by
  cases h with
  | cons a r =>
    obtain ⟨w, rfl, b⟩ := r.one_inv
    exact ⟨_, w, rfl, a, b⟩
theorem FzA.three_inv {H : Hp} {vs : List V} {k j l : NestedKey} (h : FzA H vs [k, j, l]) : ∃ v w x, vs = [v, w, x] ∧ Fz H v k ∧ Fz H w j ∧ Fz H x l := by
  cases h with
  | cons a r =>
    obtain ⟨w, x, rfl, b, c⟩ := r.two_inv
    exact ⟨_, w, x, rfl, a, b, c⟩
theorem FzA.four_inv {H : Hp} {vs : List V} {k j l m : NestedKey} (h : FzA H vs [k, j, l, m]) : ∃ v w x y, vs = [v, w, x, y] ∧ Fz H v k ∧ Fz H w j ∧ Fz H x l ∧ Fz H y m := by
  cases h with
  | cons a r =>
    obtain ⟨w, x, y, rfl, b, c, d⟩ := r.three_inv
    exact ⟨_, w, x, y, rfl, a, b, c, d⟩

/-! ### the pages' defs -/
def sortP (ps : List Page) : List Page := ps.mergeSort fun a b => skLe skOf a.key b.key
theorem sortP_keys (ps : List Page) : (sortP ps).map Page.key = (ps.map Page.key).mergeSort (skLe skOf) := by
  unfold sortP
  exact List.map_mergeSort fun a _ b _ => rfl
section
variable {P : Program} {w : World} {K : PySem.W.Frag} {mg : Str → Option Value} {base : Heap} {CH CW aK aA aG : Addr}
theorem sc_page_kind : FnScope ["page"] ["page"] (defScope s_page_kind) := ⟨rfl, rfl, rfl, by decide +kernel, rfl, by decide +kernel, by decide +kernel⟩
theorem ok_page_kind (D : Dat K mg "page_kind" "page_kind" s_page_kind ["page"]) : OK P w K mg base 1 "page_kind" ["page"] (fsp (r_at 0)) := by
  refine ok_mk D sc_page_kind (fun vs H Q E h => ?_) (fun f cdv A outer s H vs Q E hr h => ?_)
  · obtain ⟨ks, k, f, e, _⟩ := h
    obtain ⟨js, rfl, _⟩ := r_at_inv e
    exact f.length
  · obtain ⟨ks, k, f, e, q⟩ := h
    obtain ⟨js, rfl, e⟩ := r_at_inv e
    obtain ⟨v, rfl, f1⟩ := f.one_inv
    refine ⟨_, (pss_one (ps_ret (pe_ix ix_tup (pv 0) pe_int (fun _ _ => rfl)))), ?_⟩
    exact s_ret (ef_ix (ef_var rfl f1) ev_c (atI_of e)) q
/-- what place_of and _law_rank give -/
def rankR (ks : List NestedKey) (k : NestedKey) : Prop := ∃ p : Page, ks = [p.key] ∧ k = skK (skOf p.key)
theorem cut2 (a b c : NestedKey) (r : List NestedKey) : cutK (a :: b :: c :: r) (some 2) none = c :: r := by
  unfold cutK
  have e1 : HT.sIx (a :: b :: c :: r).length 0 (some 2) = 2 := by
    simp [HT.sIx]
  have e2 : HT.sIx (a :: b :: c :: r).length (a :: b :: c :: r).length none = (a :: b :: c :: r).length := rfl
  rw [e1, e2]
  show List.take _ (c :: r) = c :: r
  exact List.take_of_length_le (by simp)
theorem sc_place_of : FnScope ["page"] ["page"] (defScope s_place_of) := ⟨rfl, rfl, rfl, by decide +kernel, rfl, by decide +kernel, by decide +kernel⟩
theorem ok_place_of (T : Txt K mg CH CW aK aA aG) (D : Dat K mg "place_of" "place_of" s_place_of ["page"]) : OK P w K mg base 1 "place_of" ["page"] (fspR rankR) := by
  refine ok_mk D sc_place_of (fun vs H Q E h => ?_) (fun f cdv A outer s H vs Q E hr h => ?_)
  · obtain ⟨ks, k, f, ⟨p, rfl, _⟩, _⟩ := h
    exact f.length
  · obtain ⟨ks, k, f, ⟨p, rfl, rfl⟩, q⟩ := h
    obtain ⟨v, rfl, f1⟩ := f.one_inv
    refine ⟨_, (pss_one (ps_ret (pe_tup (pa_cons (pe_ix ix_tup (pv 0) pe_int (fun _ _ => rfl)) (pa_cons (pe_bm PySem.F.plainAttrs_tuple PySem.F.slot_tuple_index PySem.F.type_tuple_index mt_tup_index (pe_glob (v := .ref aK) (by rfl) T.kinds rfl) (pa_cons (pe_ix ix_tup (pv 0) pe_int (fun _ _ => rfl)) pa_nil)) (pa_cons (pe_slice sl_tupA (pv 0) (po_some pe_int) po_none) pa_nil)))))), ?_⟩
    rw [skOf_key] at q
    have f1 : Fz H v (.tup (.text p.kind :: .num p.day :: .text p.one :: p.rest)) := f1
    refine s_ret (ef_tup (ea_cons (ef_ix (ef_var rfl f1) ev_c (atI_of (n := 1) rfl)) (ea_cons (k := .num p.kix) ?_ (ea_cons ((ef_sl (ef_var rfl f1) (eo_some ev_c) eo_none).ofF ?_) ea_nil)))) q
    · intro H1 s Q q
      refine ⟨.inr (.inl ⟨rfl, T.tyK⟩), (ef_ix (K := K) (ef_var (i := 0) (σ := start ["page"] [v]) rfl f1) ev_c (atI_of (n := 0) rfl)) H1 s _ fun x H2 s2 fx => ?_⟩
      obtain rfl := fx.str_inv
      exact ⟨aK, kindsL, p.kind, p.kix, rfl, rfl, T.sqK H2, (kix_kind p).1, (kix_kind p).2, q _ H2 s2 (.int _)⟩
    · rw [cut2]
theorem tk_dw {P : Program} {w : World} {H H' : Hp} {d : Addr} {kvs : List (NestedKey × V)} (h : DW P w H d kvs) (k : ∀ b, b ≠ d → H' b = H b) : TK H H' := fun a xs e => by
  obtain ⟨φ, q⟩ := h.ho
  rw [k a fun z => by rw [z, q] at e; cases e]
  exact e
theorem same_new {H H' : Hp} {p : Addr} (h : H p = none) (k : ∀ b, b ≠ p → H' b = H b) : Same H H' := fun a o e => by
  rw [k a (ne_of_none e h)]
  exact e
theorem rank_sp (ks : List NestedKey) (h : ∀ k ∈ ks, IsPage k) : KeySp (fspR rankR) skOf ks := fun k hk v H Q f q => by
  obtain ⟨p, rfl⟩ := h k hk
  exact ⟨[p.key], _, .one f, ⟨p, rfl, rfl⟩, q⟩
theorem keys_page (ps : List Page) : ∀ k ∈ ps.map Page.key, IsPage k := fun k hk => by
  obtain ⟨p, _, rfl⟩ := List.mem_map.mp hk
  exact ⟨p, rfl⟩
theorem keys_nodup {ps : List Page} (h : ps.Nodup) : (ps.map Page.key).Nodup := by
  unfold List.Nodup at h ⊢
  rw [List.pairwise_map]
  exact h.imp fun a z => a (Page.key_inj z)
theorem ky_page {H : Hp} {v : V} {p : Page} (f : Fz H v p.key) : KY H v p.key := ⟨f, Nat.le_trans p.depth (by decide), _, rfl⟩
theorem putK_new {κ : Type} [DecidableEq κ] {kvs : List (κ × V)} {k : κ} {v : V} (h : k ∉ kvs.map (·.1)) : putK kvs k v = kvs ++ [(k, v)] := by
  unfold putK
  rw [if_neg]
  intro z
  simp only [List.any_eq_true, decide_eq_true_eq] at z
  obtain ⟨e, he, z⟩ := z
  exact h (List.mem_map.mpr ⟨e, he, z⟩)
def inOrderR (ks : List NestedKey) (k : NestedKey) : Prop := ∃ ps : List Page, ks = [.tup (ps.map Page.key)] ∧ ps.Nodup ∧ ps.length ≤ 1000 ∧ k = .tup ((sortP ps).map Page.key)
theorem sc_in_order : FnScope ["some", "unlike", "page"] ["some"] (defScope s_in_order) := ⟨rfl, rfl, rfl, by decide +kernel, rfl, by decide +kernel, by decide +kernel⟩
theorem ok_in_order (T : Txt K mg CH CW aK aA aG) (D : Dat K mg "in_order" "in_order" s_in_order ["some"]) (G : OK P w K mg base 1 "place_of" ["page"] (fspR rankR)) : OK P w K mg base 5 "in_order" ["some"] (fspR inOrderR) := by
  obtain ⟨fK, fdK, mK, _, bK, FK⟩ := G.ex
  refine ok_mk D sc_in_order (fun vs H Q E h => ?_) (fun f cdv A outer s H vs Q E hr h => ?_)
  · obtain ⟨ks, k, f, ⟨p, rfl, _⟩, _⟩ := h
    exact f.length
  · obtain ⟨ks, k, f, ⟨ps, rfl, nd, hz, rfl⟩, q⟩ := h
    obtain ⟨v, rfl, f1⟩ := f.one_inv
    have hspK := rank_sp
    have halK := pages_alike
    have hdK := sk_depth
    have hu := hr.units
    have hu0 := hr.units0
    have hu1 : _ + 1 < cLine := Nat.lt_of_le_of_lt (Nat.add_le_add_left (by decide : 1 ≤ 64) _) hu
    refine ⟨_, (pss_cons (ps_set (i := 1) sc_in_order.nd rfl (Or.inl rfl) pe_nnew) (pss_cons (ps_for PassesOwn.never rfl (pi_tup (pv 0)) (pg_name (i := 2) sc_in_order.nd rfl (Or.inl rfl)) (pss_one (ps_nput hu (pv 1) (pv 2) pe_bl rfl))) (pss_one (ps_ret (pe_callTy call_tuple_of (by rfl) T.tuple b_tuple (pa_cons (pe_callBK (cr_sortK rfl FK (hr.mono (by decide)) bK rfl hspK halK hdK) (by rfl) T.sorted b_sorted (pa_cons (pv 1) pa_nil) (pk_cons (pe_glob (v := .ref fK) (by rfl) mK rfl) pk_nil)) pa_nil)))))), ?_⟩
    intro d H1 hd dw ne
    have s1 : Same H H1 := same_new hd ne
    refine q_forT (ks := ps.map Page.key) (ef_var rfl (f1.sm s1)) fun a xs H2 s2 hx fx => ?_
    refine ⟨fun i σ' H' => (∃ x, σ' = [some v, some (.ref d), x]) ∧ Same H H' ∧ TK H2 H' ∧ ∃ kvs, DW P w H' d kvs ∧ kvs.map (·.1) = (ps.map Page.key).take i, ⟨⟨none, rfl⟩, s1.trans s2, .refl _, [], dw.sm s2, rfl⟩, fun i σ' H' p => p.2.2.1, fun i j x σ' H' hj fj ⟨⟨y, hy⟩, s3, t3, kvs, dk, ek⟩ => ?_, fun σ' H' ⟨⟨y, hy⟩, s3, t3, kvs, dk, ek⟩ => ?_⟩
    · subst hy
      obtain ⟨p, hp, rfl⟩ := List.mem_map.mp (List.mem_of_getElem? hj)
      have hl : kvs.length ≤ ps.length := by
        have e := congrArg List.length ek
        rw [List.length_map, List.length_take, List.length_map] at e
        omega
      have hn : p.key ∉ kvs.map (·.1) := by
        rw [ek]
        intro z
        obtain ⟨m, hm, e⟩ := List.mem_iff_getElem.mp z
        have hm' : m < i := by
          rw [List.length_take] at hm
          omega
        have e1 : (ps.map Page.key)[m]? = some p.key := by
          rw [List.getElem_take] at e
          rw [List.getElem?_eq_getElem (by rw [List.length_take] at hm; omega), e]
        have := (List.getElem?_inj (by rw [List.length_take] at hm; omega) (keys_nodup nd)).mp (e1.trans hj.symm)
        omega
      refine ⟨_, rfl, _, rfl, d, kvs, p.key, rfl, dk, ky_page fj, Nat.lt_of_le_of_lt (Nat.le_trans hl hz) (by decide), fun H4 dw4 ne4 => ⟨⟨_, rfl⟩, ?_, t3.trans (tk_dw dk ne4), _, dw4, ?_⟩⟩
      · intro a o e
        rw [ne4 a (ne_of_none e hd)]
        exact s3 a o e
      · rw [putK_new hn, List.map_append, ek, List.take_add_one, hj] <;> rfl
    · subst hy
      rw [List.take_length] at ek
      refine ⟨_, rfl, d, ps.map Page.key, rfl, rfl, .inr ⟨kvs, dk.dn, ek⟩, keys_page ps, fun l ys H5 hl s5 hL hf => ⟨l, ys, rfl, .inl ⟨sqL_of hL, fun m hm => ?_⟩⟩⟩
      refine q _ _ ((s3.trans s5).trans (Same.new hm)) (.tup upd_same ?_)
      rw [sortP_keys]
      exact hf.sm (Same.new hm)
def withR (ks : List NestedKey) (k : NestedKey) : Prop := ∃ (ps : List Page) (p : Page), ks = [.tup (ps.map Page.key), p.key] ∧ (ps ++ [p]).Nodup ∧ ps.length ≤ 900 ∧ k = .tup ((sortP (ps ++ [p])).map Page.key)
theorem sc_with_page : FnScope ["book", "page"] ["book", "page"] (defScope s_with_page) := ⟨rfl, rfl, rfl, by decide +kernel, rfl, by decide +kernel, by decide +kernel⟩
theorem ok_with_page (D : Dat K mg "with_page" "with_page" s_with_page ["book", "page"]) (G_in_order : OK P w K mg base 5 "in_order" ["some"] (fspR inOrderR)) : OK P w K mg base 6 "with_page" ["book", "page"] (fspR withR) := by
  refine ok_mk D sc_with_page (fun vs H Q E h => ?_) (fun f cdv A outer s H vs Q E hr h => ?_)
  · obtain ⟨ks, k, f, ⟨ps, p, rfl, _⟩, _⟩ := h
    exact f.length
  · obtain ⟨ks, k, f, ⟨ps, p, rfl, nd, hz, rfl⟩, q⟩ := h
    obtain ⟨v, u, rfl, f1, f2⟩ := f.two_inv
    refine ⟨_, (pss_one (ps_ret (px_call G_in_order (hr.mono (by decide)) (by rfl) (pa_cons (pe_op op_catA (pv 0) (pe_tup (pa_cons (pv 1) pa_nil))) pa_nil)))), ?_⟩
    refine s_ret (ef_callR (ea_cons (ef_cat (ef_var rfl f1) (ef_tup (ea_cons (ef_var rfl f2) ea_nil)) ?_) ea_nil) ⟨ps ++ [p], ?_, nd, ?_, rfl⟩) q
    · rw [List.length_map]
      show ps.length + 1 ≤ _
      omega
    · rw [List.map_append] <;> rfl
    · rw [List.length_append]
      show ps.length + 1 ≤ _
      omega
def upToR (ks : List NestedKey) (k : NestedKey) : Prop := ∃ (ps : List Page) (d : Int), ks = [.tup (ps.map Page.key), .num d] ∧ ps.length ≤ 1000 ∧ k = .tup ((ps.filter fun p => decide (p.day ≤ d)).map Page.key)
def dayOf : NestedKey → Int
  | .tup (_ :: .num d :: _) => d
  | _ => 0
theorem dayOf_key (p : Page) : dayOf p.key = p.day := rfl
theorem filter_day (ps : List Page) (f : Int → Bool) : (ps.map Page.key).filter (fun k => f (dayOf k)) = (ps.filter fun p => f p.day).map Page.key := by
  rw [List.filter_map] <;> rfl
theorem sc_up_to : FnScope ["book", "day", "page"] ["book", "day"] (defScope s_up_to) := ⟨rfl, rfl, rfl, by decide +kernel, rfl, by decide +kernel, by decide +kernel⟩
theorem ok_up_to (T : Txt K mg CH CW aK aA aG) (D : Dat K mg "up_to" "up_to" s_up_to ["book", "day"]) (G_page_day : OK P w K mg base 1 "page_day" ["page"] (fsp (r_at 1))) : OK P w K mg base 3 "up_to" ["book", "day"] (fspR upToR) := by
  refine ok_mk D sc_up_to (fun vs H Q E h => ?_) (fun f cdv A outer s H vs Q E hr h => ?_)
  · obtain ⟨ks, k, f, ⟨ps, p, rfl, _⟩, _⟩ := h
    exact f.length
  · obtain ⟨ks, k, f, ⟨ps, d, rfl, hz, rfl⟩, q⟩ := h
    obtain ⟨v, u, rfl, f1, f2⟩ := f.two_inv
    obtain rfl := f2.int_inv
    refine ⟨_, (pss_one (ps_ret (pe_callTy call_tuple_of (by rfl) T.tuple b_tuple (pa_cons (pe_lc (own := [("page", 2)]) rfl sc_up_to.nd (pi_tup (pv 0)) (blkOk_by (own := [("page", 2)]) (N := ["book", "day", "page"]) (sc := defScope s_up_to) (by decide +kernel)) (fun _ _ _ _ _ => (pg_name (i := 2) sc_up_to.nd rfl (Or.inl rfl))) (fun _ _ _ _ _ => (pts_one (pt_cmpR op_le (px_call G_page_day (hr.mono (by decide)) (by rfl) (pa_cons (pv 2) pa_nil)) (pv 1) (nomark _)))) (fun _ _ _ _ _ => (pv 2))) pa_nil)))), ?_⟩
    refine s_ret (ef_tupleL (EvP.imp (el_lcT (fun k => decide (dayOf k ≤ d)) id (ef_var rfl f1) (by rw [List.length_map]; omega) (fun _ => rfl) (fun x k H1 hk s1 fx => ?_) (fun x k H1 hk s1 fx _ => ef_var rfl fx)) fun v H' _ h => h.ln.lf)) fun v H' s h => q v H' s ?_
    · obtain ⟨p, _, rfl⟩ := List.mem_map.mp hk
      exact et_test (ev_I0 (g := fun i j => .bl (decide (i ≤ j))) (ev_of_int (ef_call (k := .num p.day) (ea_cons (ef_var rfl fx) ea_nil) rfl)) (ev_var rfl))
    · rw [List.map_id, filter_day ps fun i => decide (i ≤ d)] at h
      exact h
theorem sc_L_rank : FnScope ["_law_page_here", "_law_kinds"] ["_law_page_here"] (defScope s_L_rank) := ⟨rfl, rfl, rfl, by decide +kernel, rfl, by decide +kernel, by decide +kernel⟩
theorem ok_rank (D : Dat K mg "_law_rank" "_law_rank" s_L_rank ["_law_page_here"]) : OK P w K mg base 1 "_law_rank" ["_law_page_here"] (fspR rankR) := by
  refine ok_mk D sc_L_rank (fun vs H Q E h => ?_) (fun f cdv A outer s H vs Q E hr h => ?_)
  · obtain ⟨ks, k, f, ⟨p, rfl, _⟩, _⟩ := h
    exact f.length
  · obtain ⟨ks, k, f, ⟨p, rfl, rfl⟩, q⟩ := h
    obtain ⟨v, rfl, f1⟩ := f.one_inv
    refine ⟨_, (pss_cons (ps_set (i := 1) sc_L_rank.nd rfl (Or.inl rfl) (pe_lst (pa_cons pe_str (pa_cons pe_str (pa_cons pe_str (pa_cons pe_str (pa_cons pe_str (pa_cons pe_str (pa_cons pe_str (pa_cons pe_str pa_nil)))))))))) (pss_one (ps_ret (pe_tup (pa_cons (pe_ix ix_tup (pv 0) pe_int (fun _ _ => rfl)) (pa_cons (pe_bm PySem.F.plainAttrs_list PySem.F.slot_list_index PySem.F.type_list_index mt_index (pv 1) (pa_cons (pe_ix ix_tup (pv 0) pe_int (fun _ _ => rfl)) pa_nil)) (pa_cons (pe_slice sl_tupA (pv 0) (po_some pe_int) po_none) pa_nil))))))), ?_⟩
    rw [skOf_key] at q
    have f1 : Fz H v (.tup (.text p.kind :: .num p.day :: .text p.one :: p.rest)) := f1
    refine ⟨by decide, fun l hl => ?_⟩
    have s0 := Same.new (o := .lst (kindsL.map V.str)) hl
    have f2 := f1.sm s0
    refine s_ret (D := ⟨_, Q, _, _⟩) (H := upd H l (.lst (kindsL.map V.str))) (ef_tup (ks := [.num p.day, .num p.kix, .tup (.text p.one :: p.rest)]) (ea_cons (ef_ix (ef_var rfl f2) ev_c (atI_of (n := 1) rfl)) (ea_cons (k := .num p.kix) ?_ (ea_cons ((ef_sl (ef_var rfl f2) (eo_some ev_c) eo_none).ofF ?_) ea_nil)))) fun v H' s h => q v H' (s0.trans s) h
    · intro H1 s Q q
      have hL : SqL K H1 l (kindsL.map V.str) := sqL_of (s l _ upd_same)
      refine ⟨_, rfl, .inl ⟨rfl, _, hL⟩, (ef_ix (K := K) (ef_var (i := 0) (σ := [some v, some (.ref l)]) rfl (f2.sm s)) ev_c (atI_of (n := 0) rfl)) H1 (Same.refl _) _ fun x H2 s2 fx => ?_⟩
      obtain rfl := fx.str_inv
      refine ⟨l, kindsL.map V.str, .str p.kind, p.kix, .str p.kind, rfl, rfl, s2.seq hL, rfl, by decide, by rw [List.getElem?_map, (kix_kind p).1] <;> rfl, by simp [eqV], fun m z hm hz => ?_, q _ H2 s2 (.int _)⟩
      rw [List.getElem?_map] at hz
      cases e : kindsL[m]? with
      | none => rw [e] at hz; cases hz
      | some k =>
        rw [e] at hz
        cases hz
        have := (kix_kind p).2 m hm
        rw [e] at this
        simp [eqV]
        intro z
        exact this (by rw [z])
    · rw [cut2]
def dedupP (ps : List Page) : List Page := ps.foldl (fun acc p => if p ∈ acc then acc else acc ++ [p]) []
def spStanding (K : PySem.W.Frag) : Sp := fun vs H Q _ => ∃ v ps, vs = [v] ∧ LF K H v (ps.map Page.key) ∧ ps.length ≤ 1000 ∧ ∀ v' H', Same H H' → Fz H' v' (.tup ((sortP (dedupP ps)).map Page.key)) → Q v' H'
theorem dedup_take {ps : List Page} {i : Nat} {p : Page} (h : ps[i]? = some p) : dedupP (ps.take (i + 1)) = if p ∈ dedupP (ps.take i) then dedupP (ps.take i) else dedupP (ps.take i) ++ [p] := by
  unfold dedupP
  rw [List.take_add_one, h, List.foldl_append] <;> rfl
theorem dedup_len (ps : List Page) : (dedupP ps).length ≤ ps.length := by
  have go : ∀ (ps acc : List Page), (ps.foldl (fun acc p => if p ∈ acc then acc else acc ++ [p]) acc).length ≤ acc.length + ps.length := by
    intro ps
    induction ps with
    | nil => intro acc; exact Nat.le_refl _
    | cons p ps ih =>
      intro acc
      rw [List.foldl_cons]
      refine Nat.le_trans (ih _) ?_
      split
      · rw [List.length_cons]; omega
      · simp only [List.length_append, List.length_cons, List.length_nil]; omega
  exact Nat.le_trans (go ps []) (by simp)
theorem key_mem {p : Page} {ps : List Page} : p.key ∈ ps.map Page.key ↔ p ∈ ps := by
  rw [List.mem_map]
  constructor
  · rintro ⟨q, hq, e⟩
    exact Page.key_inj e ▸ hq
  · exact fun h => ⟨p, h, rfl⟩
theorem sc_L_standing_so : FnScope ["_law_pages", "_law_found", "_law_page_here"] ["_law_pages"] (defScope s_L_standing_so) := ⟨rfl, rfl, rfl, by decide +kernel, rfl, by decide +kernel, by decide +kernel⟩
theorem ok_standing (T : Txt K mg CH CW aK aA aG) (D : Dat K mg "_law_standing_so" "_law_standing_so" s_L_standing_so ["_law_pages"]) (G : OK P w K mg base 1 "_law_rank" ["_law_page_here"] (fspR rankR)) : OK P w K mg base 5 "_law_standing_so" ["_law_pages"] (spStanding K) := by
  obtain ⟨fK, fdK, mK, _, bK, FK⟩ := G.ex
  refine ok_mk D sc_L_standing_so (fun vs H Q E h => ?_) (fun f cdv A outer s H vs Q E hr h => ?_)
  · obtain ⟨v, ps, rfl, _⟩ := h
    rfl
  · obtain ⟨v, ps, rfl, ⟨a, xs, rfl, hx, fx⟩, hz, q⟩ := h
    have hspK := rank_sp
    have halK := pages_alike
    have hdK := sk_depth
    have hu := hr.units
    have hu0 := hr.units0
    have hu1 : _ + 1 < cLine := Nat.lt_of_le_of_lt (Nat.add_le_add_left (by decide : 1 ≤ 64) _) hu
    refine ⟨_, (pss_cons (ps_set (i := 1) sc_L_standing_so.nd rfl (Or.inl rfl) (pe_lst pa_nil)) (pss_cons (ps_for PassesOwn.never rfl (pi_list (pv 0)) (pg_name (i := 2) sc_L_standing_so.nd rfl (Or.inl rfl)) (pss_one (ps_if (pt_cmpR (op_notInK hu) (pv 2) (pv 1) (by with_unfolding_all rfl)) (pss_one (ps_expr (pe_bm PySem.F.plainAttrs_list PySem.F.slot_list_append PySem.F.type_list_append mt_append (pv 1) (pa_cons (pv 2) pa_nil)))) pss_nil))) (pss_one (ps_ret (pe_callTy call_tuple_of (by rfl) T.tuple b_tuple (pa_cons (pe_callBK (cr_sortK rfl FK (hr.mono (by decide)) bK rfl hspK halK hdK) (by rfl) T.sorted b_sorted (pa_cons (pv 1) pa_nil) (pk_cons (pe_glob (v := .ref fK) (by rfl) mK rfl) pk_nil)) pa_nil)))))), ?_⟩
    refine ⟨by decide, fun d hd => ?_⟩
    have s1 : Same H (upd H d (.lst [])) := Same.new hd
    refine q_forLa (ks := ps.map Page.key) (ev_var rfl) (fx.sm s1) (fun i σ' H' => (∃ x, σ' = [some (.ref a), some (.ref d), x]) ∧ Same H H' ∧ TK (upd H d (.lst [])) H' ∧ ∃ ys, H' d = some (.lst ys) ∧ FzA H' ys ((dedupP (ps.take i)).map Page.key))
      (fun H1 s2 => ⟨⟨none, rfl⟩, s1.trans s2, .of_same s2, [], s2 _ _ upd_same, .nil⟩) (fun i σ' H' p => ⟨p.2.2.1, p.2.1.seq hx⟩) (fun i j x σ' H' hj fj ⟨⟨y, hy⟩, s3, t3, ys, hd3, fy⟩ => ?_) (fun σ' H' ⟨⟨y, hy⟩, s3, t3, ys, hd3, fy⟩ => ?_)
    · subst hy
      rw [List.getElem?_map] at hj
      obtain ⟨p, hp, rfl⟩ := Option.map_eq_some_iff.mp hj
      have hlen : ys.length ≤ 1000 := by
        rw [fy.length, List.length_map]
        have := dedup_len (ps.take i)
        rw [List.length_take] at this
        omega
      refine s_if (et_test (ev_notInL (ef_var rfl fj) (Nat.le_trans p.depth (by decide)) (ep_var (P := fun v H2 => LF K H2 v ((dedupP (ps.take i)).map Page.key)) rfl (fun v H H' s h => h.sm s) ⟨d, ys, rfl, sqL_of hd3, fy⟩))) (fun hb H4 s4 => ?_) (fun hb H4 s4 => ?_)
      · have hn : p ∉ dedupP (ps.take i) := by
          simp at hb
          exact fun z => hb p z rfl
        have hd4 := s4 _ _ hd3
        have t5 : TK H4 (upd H4 d (.lst (ys ++ [x]))) := TK.upd fun xs z => by rw [hd4] at z; cases z
        refine ⟨_, rfl, .inl ⟨rfl, _, sqL_of hd4⟩, _, rfl, d, ys, x, rfl, rfl, hd4, Nat.lt_of_le_of_lt hlen (by decide), ⟨_, rfl⟩, ?_, (t3.trans (.of_same s4)).trans t5, _, upd_same, ?_⟩
        · intro b o e
          rw [upd_ne (ne_of_none e hd)]
          exact s4 _ _ (s3 _ _ e)
        · rw [dedup_take hp, if_neg hn, List.map_append]
          exact ((fy.sm s4).tk t5).append (.one ((fj.sm s4).tk t5))
      · have hn : p ∈ dedupP (ps.take i) := by
          simp at hb
          obtain ⟨p', h1, h2⟩ := hb
          exact Page.key_inj h2 ▸ h1
        refine ⟨⟨_, rfl⟩, s3.trans s4, t3.trans (.of_same s4), ys, s4 _ _ hd3, ?_⟩
        rw [dedup_take hp, if_pos hn]
        exact fy.sm s4
    · subst hy
      rw [List.length_map, List.take_length] at fy
      refine ⟨_, rfl, d, (dedupP ps).map Page.key, rfl, rfl, .inl ⟨ys, .inl (sqL_of hd3), fy⟩, keys_page _, fun l zs H5 hl s5 hL hf => ⟨l, zs, rfl, .inl ⟨sqL_of hL, fun m hm => ?_⟩⟩⟩
      refine q _ _ ((s3.trans s5).trans (Same.new hm)) (.tup upd_same ?_)
      rw [sortP_keys]
      exact hf.sm (Same.new hm)
end
end K34
namespace K34
open PySem PySem.Spec L2

/-! ### objects that change: what is theirs, and what stays -/
/-- own: what may change. From H to H' all else stays, and what is theirs now was theirs or is new -/
structure Step (own : Addr → Prop) (H : Hp) (own' : Addr → Prop) (H' : Hp) : Prop where
  keep : ∀ a o, H a = some o → ¬ own a → H' a = some o
  tk : TK H H'
  live : ∀ a, H' a = none → H a = none
  fresh : ∀ a, own' a → own a ∨ H a = none
theorem Step.refl (own : Addr → Prop) (H : Hp) : Step own H own H := ⟨fun _ _ e _ => e, .refl H, fun _ h => h, fun _ h => .inl h⟩
theorem Step.of_same {own : Addr → Prop} {H H' : Hp} (s : Same H H') : Step own H own H' := ⟨fun a o e _ => s a o e, .of_same s, fun _ h => s.free h, fun _ h => .inl h⟩
theorem Step.trans {o1 o2 o3 : Addr → Prop} {H1 H2 H3 : Hp} (a : Step o1 H1 o2 H2) (b : Step o2 H2 o3 H3) : Step o1 H1 o3 H3 :=
  ⟨fun x o e n => b.keep x o (a.keep x o e n) fun z => (a.fresh x z).elim n fun q => (by rw [q] at e; cases e), a.tk.trans b.tk, fun x h => a.live x (b.live x h), fun x h => (b.fresh x h).elim (a.fresh x) fun q => .inr (a.live x q)⟩
/-- one object of theirs changes -/
theorem Step.upd {own : Addr → Prop} {H : Hp} {a : Addr} {o u : HO} (h : own a) (e : H a = some u) (n : ∀ xs, u ≠ .tup xs) : Step own H own (upd H a o) :=
  ⟨fun b p q nb => (by rw [upd_ne (show b ≠ a from fun z => nb (by rw [z]; exact h))]; exact q), TK.upd fun xs z => (by rw [e] at z; cases z; exact n xs rfl), fun b q => by
    by_cases z : b = a
    · rw [z, upd_same] at q; cases q
    · rw [upd_ne z] at q; exact q, fun _ h => .inl h⟩
theorem Step.at {own : Addr → Prop} {H H' : Hp} {d : Addr} {kvs kvs' : List (NestedKey × V)} {P : Program} {w : World} (h : own d) (e : DW P w H d kvs) (e' : DW P w H' d kvs') (ne : ∀ b, b ≠ d → H' b = H b) : Step own H own H' :=
  ⟨fun b p q nb => (by rw [ne b (show b ≠ d from fun z => nb (by rw [z]; exact h))]; exact q), tk_dw e ne, fun b q => by
    by_cases z : b = d
    · obtain ⟨φ, r⟩ := e'.ho
      rw [z, r] at q; cases q
    · rw [ne b z] at q; exact q, fun _ h => .inl h⟩
/-- as base, for a caller that knows B -/
theorem Step.base {own own' : Addr → Prop} {B H H' : Hp} (s : Step own H own' H') (b : Same B H) (n : ∀ a, own a → B a = none) : Same B H' ∧ ∀ a, own' a → B a = none :=
  ⟨fun a o e => s.keep a o (b a o e) fun z => (by rw [n a z] at e; cases e), fun a h => (s.fresh a h).elim (n a) fun q => b.free q⟩
section
variable {K : PySem.W.Frag} {σ : St} {H : Hp} {te ta tb tv td ty : TE} {t : TA} {D : Ends} {P R : V → Hp → Prop} {a C dx p : Addr} {fs : List (Str × V)} {f x m : Str} {v : V} {kvs : List (Key × V)} {b : Bool}
theorem seqi {tu tz : TS} (h : tu { D with nx := tz D } σ H) : tSeq tu tz D σ H := h
theorem ev_fld (h : EvV ta σ H (.ref p)) (ho : H p = some (.ins C dx fs)) (cl : Cls K C) (na : NoAttr K C f) (lk : fs.lookup f = some v) : EvV (tFld K ta f) σ H v := fun H1 s Q q => h H1 s _ fun u H2 s2 e =>
  ⟨p, C, dx, fs, v, e, s2 _ _ (s _ _ ho), cl, na, lk, q v H2 s2 rfl⟩
theorem ev_din (hy : EvV ty σ H (.str x)) (hd : EvV td σ H (.ref a)) (ha : H a = some (.dK kvs)) : EvV (tDIn ty td) σ H (.bl (valV kvs (.inr x)).isSome) := fun H1 s Q q => hy H1 s _ fun u H2 s2 e => hd H2 (s.trans s2) _ fun w H3 s3 e2 => by
  subst e e2
  exact ⟨a, _, rfl, DGet.k (k := .inr x) (s3 _ _ (s2 _ _ (s _ _ ha))), q _ H3 (s2.trans s3) rfl⟩
theorem ev_dnotin (hy : EvV ty σ H (.str x)) (hd : EvV td σ H (.ref a)) (ha : H a = some (.dK kvs)) : EvV (tDNotIn ty td) σ H (.bl (!(valV kvs (.inr x)).isSome)) := fun H1 s Q q => hy H1 s _ fun u H2 s2 e => hd H2 (s.trans s2) _ fun w H3 s3 e2 => by
  subst e e2
  exact ⟨a, _, rfl, DGet.k (k := .inr x) (s3 _ _ (s2 _ _ (s _ _ ha))), q _ H3 (s2.trans s3) rfl⟩
theorem ev_dget (hd : EvV td σ H (.ref a)) (hy : EvV ty σ H (.str x)) (ha : H a = some (.dK kvs)) (hv : valV kvs (.inr x) = some v) : EvV (tDGet td ty) σ H v := fun H1 s Q q => hd H1 s _ fun u H2 s2 e => hy H2 (s.trans s2) _ fun w H3 s3 e2 => by
  subst e e2
  refine ⟨a, v, rfl, ?_, q _ H3 (s2.trans s3) rfl⟩
  have g := DGet.k (k := .inr x) (s3 _ _ (s2 _ _ (s _ _ ha)))
  rw [hv] at g
  exact g
theorem s_dput (kp : Keeps P) (hv : EvP tv σ H P) (hd : EvV td σ H (.ref a)) (hy : EvV ty σ H (.str x)) (ha : H a = some (.dK kvs)) (hz : kvs.length < 100000) (k : ∀ v H1, Same H H1 → P v H1 → D.nx σ (upd H1 a (.dK (putK kvs (.inr x) v)))) : sDPut td ty tv D σ H :=
  hv H (Same.refl _) _ fun v H1 s1 pv => hd H1 s1 _ fun u H2 s2 e => hy H2 (s1.trans s2) _ fun w H3 s3 e2 => by
    subst e e2
    exact ⟨a, _, rfl, .inl ⟨kvs, .inr x, s3 _ _ (s2 _ _ (s1 _ _ ha)), rfl, Nat.lt_of_lt_of_le hz (by decide), rfl⟩, k v H3 ((s1.trans s2).trans s3) (kp v _ _ s3 (kp v _ _ s2 pv))⟩
theorem s_app {l : Addr} {xs : List V} (kp : Keeps P) (hl : EvV ta σ H (.ref l)) (he : EvP te σ H P) (ha : H l = some (.lst xs)) (hz : xs.length < 100000) (k : ∀ v H1, Same H H1 → P v H1 → D.nx σ (upd H1 l (.lst (xs ++ [v])))) :
    tDrop (tBM K "list" rAppend ta (tCons te tNil)) D σ H :=
  hl H (Same.refl _) _ fun u H1 s1 e => by
    subst e
    exact ⟨.inl ⟨rfl, _, sqL_of (s1 _ _ ha)⟩, he H1 s1 _ fun v H2 s2 pv => ⟨l, xs, v, rfl, rfl, s2 _ _ (s1 _ _ ha), Nat.lt_of_lt_of_le hz (by decide), k v H2 (s1.trans s2) pv⟩⟩
theorem m_call {sp : Sp} {E : XK} {Q : VK} {A : List V → Hp → Prop} (h : EvV ta σ H (.ref p)) (ho : H p = some (.ins C dx fs)) (lk : fs.lookup m = none) (ha : EvA t σ H A) (k : ∀ vs H1, Same H H1 → A vs H1 → sp (.ref p :: (vs ++ [])) H1 Q E) : tMeth C m sp [] E ta t σ H Q :=
  h H (Same.refl _) _ fun u H1 s1 e => ⟨p, dx, fs, e, s1 _ _ ho, lk, ha H1 s1 _ fun vs H2 s2 av => by subst e; exact k vs H2 (s1.trans s2) av⟩
theorem s_dpop (hd : EvV td σ H (.ref a)) (hy : EvV ty σ H (.str x)) (ha : H a = some (.dK kvs)) (hv : valV kvs (.inr x) = some v) (k : ∀ H1, Same H H1 → D.nx σ (upd H1 a (.dK (dropK kvs (.inr x))))) : tDrop (tDPop1 td ty) D σ H :=
  hd H (Same.refl _) _ fun u H1 s1 e => ⟨a, e, .inl ⟨kvs, .inl (s1 _ _ ha)⟩, hy H1 s1 _ fun y H2 s2 e2 => ⟨kvs, .inr x, v, s2 _ _ (s1 _ _ ha), e2, hv, k H2 (s1.trans s2)⟩⟩
theorem kp_fz {k : NestedKey} : Keeps fun v H => Fz H v k := fun _ _ _ s f => f.sm s
theorem kp_ev {x : V} : Keeps fun v _ => v = x := fun _ _ _ _ f => f
theorem putF_lt {f : Str} {v : V} : ∀ {fs : List (Str × V)} {n : Nat}, fs.length < n → (putF f v fs).length < n + 1
  | [], n, h => by show 1 < n + 1; omega
  | (g, y) :: r, n, h => by
    have h : r.length + 1 < n := h
    show (if g = f then (g, v) :: r else (g, y) :: putF f v r).length < n + 1
    split
    · show r.length + 1 < n + 1; omega
    · have := putF_lt (f := f) (v := v) (fs := r) (n := n - 1) (by omega)
      show (putF f v r).length + 1 < n + 1
      omega
/-- o.f = {}, o.f = [] -/
theorem q_fldK {tz : TS} (ho : H p = some (.ins C dx fs)) (cl : Cls K C) (na : NoAttr K C f) (hz : fs.length < 900) (h0 : σ[0]? = some (some (.ref p))) (k : ∀ a H', H a = none → H' p = some (.ins C dx (putF f (.ref a) fs)) → H' a = some (.dK []) → (∀ b o, H b = some o → b ≠ p → H' b = some o) → (∀ b, H' b = none → H b = none) → tz D σ H') :
    tSeq (sFld K (tVar 0) tDNewK f) tz D σ H := fun a ha => by
  have n : p ≠ a := ne_of_none ho ha
  refine ⟨_, h0, p, C, dx, fs, rfl, by rw [upd_ne n]; exact ho, cl, na, Nat.lt_trans hz (by decide), k a _ ha upd_same (by rw [upd_ne n.symm, upd_same]) (fun b o e nb => by rw [upd_ne nb, upd_ne (ne_of_none e ha)]; exact e) fun b e => ?_⟩
  by_cases h1 : b = p
  · rw [h1, upd_same] at e; cases e
  · rw [upd_ne h1] at e
    by_cases h2 : b = a
    · rw [h2]; exact ha
    · rw [upd_ne h2] at e; exact e
theorem q_fldL {tz : TS} (ho : H p = some (.ins C dx fs)) (cl : Cls K C) (na : NoAttr K C f) (hz : fs.length < 900) (h0 : σ[0]? = some (some (.ref p))) (k : ∀ a H', H a = none → H' p = some (.ins C dx (putF f (.ref a) fs)) → H' a = some (.lst []) → (∀ b o, H b = some o → b ≠ p → H' b = some o) → (∀ b, H' b = none → H b = none) → tz D σ H') :
    tSeq (sFld K (tVar 0) (tLst tNil) f) tz D σ H := ⟨Nat.zero_le _, fun a ha => by
  have n : p ≠ a := ne_of_none ho ha
  refine ⟨_, h0, p, C, dx, fs, rfl, by rw [upd_ne n]; exact ho, cl, na, Nat.lt_trans hz (by decide), k a _ ha upd_same (by rw [upd_ne n.symm, upd_same]) (fun b o e nb => by rw [upd_ne nb, upd_ne (ne_of_none e ha)]; exact e) fun b e => ?_⟩
  by_cases h1 : b = p
  · rw [h1, upd_same] at e; cases e
  · rw [upd_ne h1] at e
    by_cases h2 : b = a
    · rw [h2]; exact ha
    · rw [upd_ne h2] at e; exact e⟩
theorem s_fldL (ho : H p = some (.ins C dx fs)) (cl : Cls K C) (na : NoAttr K C f) (hz : fs.length < 900) (h0 : σ[0]? = some (some (.ref p))) (k : ∀ a H', H a = none → H' p = some (.ins C dx (putF f (.ref a) fs)) → H' a = some (.lst []) → (∀ b o, H b = some o → b ≠ p → H' b = some o) → (∀ b, H' b = none → H b = none) → D.nx σ H') :
    sFld K (tVar 0) (tLst tNil) f D σ H := q_fldL (tz := fun D => D.nx) ho cl na hz h0 k
theorem q_fldN {tz : TS} {P : Program} {w : World} (ho : H p = some (.ins C dx fs)) (cl : Cls K C) (na : NoAttr K C f) (hz : fs.length < 900) (h0 : σ[0]? = some (some (.ref p))) (k : ∀ a H', H a = none → H' p = some (.ins C dx (putF f (.ref a) fs)) → DW P w H' a [] → (∀ b o, H b = some o → b ≠ p → H' b = some o) → (∀ b, H' b = none → H b = none) → tz D σ H') :
    tSeq (sFld K (tVar 0) (tNNew P w) f) tz D σ H := fun a H1 ha dw ne => by
  have n : p ≠ a := ne_of_none ho ha
  have hp : H1 p = some (.ins C dx fs) := by rw [ne p n]; exact ho
  refine ⟨_, h0, p, C, dx, fs, rfl, hp, cl, na, Nat.lt_trans hz (by decide), k a _ ha upd_same (dw.keep (upd_ne n.symm) (TK.upd fun xs z => by rw [hp] at z; cases z)) (fun b o e nb => by rw [upd_ne nb, ne b (ne_of_none e ha)]; exact e) fun b e => ?_⟩
  by_cases h1 : b = p
  · rw [h1, upd_same] at e; cases e
  · rw [upd_ne h1] at e
    by_cases h2 : b = a
    · rw [h2]; exact ha
    · rw [ne b h2] at e; exact e
/-- o.f = e -/
theorem s_fldV (kp : Keeps P) (hv : EvP tv σ H P) (h : EvV ta σ H (.ref p)) (ho : H p = some (.ins C dx fs)) (cl : Cls K C) (na : NoAttr K C f) (hz : fs.length < 900) (k : ∀ v H1, Same H H1 → P v H1 → D.nx σ (upd H1 p (.ins C dx (putF f v fs)))) : sFld K ta tv f D σ H :=
  hv H (Same.refl _) _ fun v H1 s1 pv => h H1 s1 _ fun u H2 s2 e => ⟨p, C, dx, fs, e, s2 _ _ (s1 _ _ ho), cl, na, Nat.lt_trans hz (by decide), k v H2 (s1.trans s2) (kp v _ _ s2 pv)⟩
end
end K34
namespace K34
open PySem PySem.Spec L2

/-! ### Houses -/
structure HS where
  homes : List (Str × List Int)
  parents : List (Str × Unit)
  idle : List Page
namespace HS
def can (s : HS) : Page → Bool
  | .house _ a _ => !(aget s.parents a).isSome
  | .part _ a b _ => (aget s.homes a).isSome && !(aget s.parents b).isSome
  | .join _ a b => (aget s.homes a).isSome && (aget s.homes b).isSome
  | .home _ a _ => (aget s.homes a).isSome
  | .mourn _ a _ => (aget s.homes a).isSome
  | .ahead _ a b => (aget s.homes a).isSome && (aget s.homes b).isSome
  | .going _ _ a b => (aget s.homes a).isSome && (aget s.homes b).isSome
def come (s : HS) (x : Str) (h : List Int) : HS := ⟨aput s.homes x h, aput s.parents x (), s.idle⟩
def act (s : HS) : Page → HS
  | .house _ a h => s.come a h
  | .part _ _ b h => s.come b h
  | .join _ _ b => ⟨adrop s.homes b, s.parents, s.idle⟩
  | .home _ a h => ⟨aput s.homes a h, s.parents, s.idle⟩
  | .mourn _ _ _ => s
  | .ahead _ _ _ => s
  | .going _ _ _ _ => s
def meet (s : HS) (p : Page) : HS := if s.can p then s.act p else ⟨s.homes, s.parents, s.idle ++ [p]⟩
end HS
def behind (ps : List Page) : HS := ps.foldl HS.meet ⟨[], [], []⟩
def hfs (hA pA jA mA iA : Addr) : List (Str × V) := [("homes", .ref hA), ("parents", .ref pA), ("joined", .ref jA), ("mourned", .ref mA), ("idle_pages", .ref iA)]
theorem hfs1 (hA pA jA mA iA : Addr) : (hfs hA pA jA mA iA).lookup ("homes" : Str) = some (.ref hA) := rfl
theorem hfs2 (hA pA jA mA iA : Addr) : (hfs hA pA jA mA iA).lookup ("parents" : Str) = some (.ref pA) := rfl
theorem hfs3 (hA pA jA mA iA : Addr) : (hfs hA pA jA mA iA).lookup ("joined" : Str) = some (.ref jA) := rfl
theorem hfs4 (hA pA jA mA iA : Addr) : (hfs hA pA jA mA iA).lookup ("mourned" : Str) = some (.ref mA) := rfl
theorem hfs5 (hA pA jA mA iA : Addr) : (hfs hA pA jA mA iA).lookup ("idle_pages" : Str) = some (.ref iA) := rfl
theorem hfs_can (hA pA jA mA iA : Addr) : (hfs hA pA jA mA iA).lookup ("can" : Str) = none := rfl
theorem hfs_come (hA pA jA mA iA : Addr) : (hfs hA pA jA mA iA).lookup ("come" : Str) = none := rfl
theorem hfs_do (hA pA jA mA iA : Addr) : (hfs hA pA jA mA iA).lookup ("do" : Str) = none := rfl
theorem hfs_meet (hA pA jA mA iA : Addr) : (hfs hA pA jA mA iA).lookup ("meet" : Str) = none := rfl
theorem hfs_ask (hA pA jA mA iA : Addr) : (hfs hA pA jA mA iA).lookup ("ask_standing" : Str) = none := rfl
abbrev kS : Str → Key := Sum.inr
theorem kS_inj : ∀ a b : Str, kS a = kS b → a = b := fun _ _ h => Sum.inr.inj h
abbrev HomeR (H : Hp) : V → List Int → Prop := fun v h => Fz H v (.tup (ik h))
/-- a Houses at p -/
structure HC (CH : Addr) (H : Hp) (p : Addr) (own : Addr → Prop) (s : HS) (n : Nat) (dx hA pA jA mA iA : Addr) (kH kP kJ kM : List (Key × V)) (xs : List V) : Prop where
  o : H p = some (.ins CH dx (hfs hA pA jA mA iA))
  dh : H hA = some (.dK kH)
  rh : DR kS (HomeR H) kH s.homes
  dp : H pA = some (.dK kP)
  rp : DR kS (fun _ _ => True) kP s.parents
  dj : H jA = some (.dK kJ)
  lj : kJ.length ≤ n
  dm : H mA = some (.dK kM)
  lm : kM.length ≤ n
  mo : ∀ a, (aget s.homes a).isSome = true → ∃ l ys, valV kM (kS a) = some (.ref l) ∧ l ≠ iA ∧ own l ∧ H l = some (.lst ys) ∧ ys.length ≤ n
  di : H iA = some (.lst xs)
  ri : FzA H xs (s.idle.map Page.key)
  zh : s.homes.length ≤ n
  zp : s.parents.length ≤ n
  zi : s.idle.length ≤ n
  o1 : own p
  o2 : own hA
  o3 : own pA
  o4 : own jA
  o5 : own mA
  o6 : own iA
  n12 : hA ≠ pA
  n13 : hA ≠ jA
  n14 : hA ≠ mA
  n23 : pA ≠ jA
  n24 : pA ≠ mA
  n34 : jA ≠ mA
def HousesAt (CH : Addr) (H : Hp) (p : Addr) (own : Addr → Prop) (s : HS) (n : Nat) : Prop := ∃ dx hA pA jA mA iA kH kP kJ kM xs, HC CH H p own s n dx hA pA jA mA iA kH kP kJ kM xs
theorem DR.tk {κ : Type} [DecidableEq κ] {f : κ → Key} {H H' : Hp} {kvs : List (Key × V)} {l : List (κ × List Int)} (h : DR f (HomeR H) kvs l) (t : TK H H') : DR f (HomeR H') kvs l := h.imp fun _ _ q => q.tk t
section
variable {CH p dx hA pA jA mA iA : Addr} {H H' : Hp} {own : Addr → Prop} {s : HS} {n : Nat} {kH kP kJ kM : List (Key × V)} {xs : List V}
theorem HC.sm (c : HC CH H p own s n dx hA pA jA mA iA kH kP kJ kM xs) (e : Same H H') : HC CH H' p own s n dx hA pA jA mA iA kH kP kJ kM xs :=
  { c with o := e _ _ c.o, dh := e _ _ c.dh, rh := c.rh.tk (.of_same e), dp := e _ _ c.dp, dj := e _ _ c.dj, dm := e _ _ c.dm, di := e _ _ c.di, ri := c.ri.sm e, mo := fun a h => let ⟨l, ys, h1, h2, h3, h4, h5⟩ := c.mo a h; ⟨l, ys, h1, h2, h3, e _ _ h4, h5⟩ }
theorem HousesAt.sm (c : HousesAt CH H p own s n) (e : Same H H') : HousesAt CH H' p own s n := let ⟨a, b, c', d, f, g, h, i, j, k, l, q⟩ := c; ⟨a, b, c', d, f, g, h, i, j, k, l, q.sm e⟩
/-- the dict of homes changes -/
theorem HC.setH (c : HC CH H p own s n dx hA pA jA mA iA kH kP kJ kM xs) {kH' : List (Key × V)} {l : List (Str × List Int)} (r : DR kS (HomeR H) kH' l) (hz : l.length ≤ n) (hm : ∀ a, (aget l a).isSome = true → (aget s.homes a).isSome = true) :
    HC CH (upd H hA (.dK kH')) p own ⟨l, s.parents, s.idle⟩ n dx hA pA jA mA iA kH' kP kJ kM xs ∧ Step own H own (upd H hA (.dK kH')) := by
  have st : Step own H own (upd H hA (.dK kH')) := Step.upd c.o2 c.dh (fun _ z => by cases z)
  refine ⟨{ c with o := by rw [upd_ne (ne_of c.o c.dh (by intro q; cases q))]; exact c.o, dh := upd_same, rh := r.tk st.tk, dp := by rw [upd_ne c.n12.symm]; exact c.dp, dj := by rw [upd_ne c.n13.symm]; exact c.dj, dm := by rw [upd_ne c.n14.symm]; exact c.dm, di := by rw [upd_ne (ne_of c.di c.dh (by intro q; cases q))]; exact c.di, ri := c.ri.tk st.tk, zh := hz, mo := fun a h => ?_ }, st⟩
  obtain ⟨l, ys, h1, h2, h3, h4, h5⟩ := c.mo a (hm a h)
  exact ⟨l, ys, h1, h2, h3, by rw [upd_ne (ne_of h4 c.dh (by intro q; cases q))]; exact h4, h5⟩
theorem HC.setP (c : HC CH H p own s n dx hA pA jA mA iA kH kP kJ kM xs) {kP' : List (Key × V)} {l : List (Str × Unit)} (r : DR kS (fun _ _ => True) kP' l) (hz : l.length ≤ n) :
    HC CH (upd H pA (.dK kP')) p own ⟨s.homes, l, s.idle⟩ n dx hA pA jA mA iA kH kP' kJ kM xs ∧ Step own H own (upd H pA (.dK kP')) := by
  have st : Step own H own (upd H pA (.dK kP')) := Step.upd c.o3 c.dp (fun _ z => by cases z)
  refine ⟨{ c with o := by rw [upd_ne (ne_of c.o c.dp (by intro q; cases q))]; exact c.o, dh := by rw [upd_ne c.n12]; exact c.dh, rh := c.rh.tk st.tk, dp := upd_same, rp := r, dj := by rw [upd_ne c.n23.symm]; exact c.dj, dm := by rw [upd_ne c.n24.symm]; exact c.dm, di := by rw [upd_ne (ne_of c.di c.dp (by intro q; cases q))]; exact c.di, ri := c.ri.tk st.tk, zp := hz, mo := fun a h => ?_ }, st⟩
  obtain ⟨l, ys, h1, h2, h3, h4, h5⟩ := c.mo a h
  exact ⟨l, ys, h1, h2, h3, by rw [upd_ne (ne_of h4 c.dp (by intro q; cases q))]; exact h4, h5⟩
theorem HC.setJ (c : HC CH H p own s n dx hA pA jA mA iA kH kP kJ kM xs) {kJ' : List (Key × V)} (hz : kJ'.length ≤ n) :
    HC CH (upd H jA (.dK kJ')) p own s n dx hA pA jA mA iA kH kP kJ' kM xs ∧ Step own H own (upd H jA (.dK kJ')) := by
  have st : Step own H own (upd H jA (.dK kJ')) := Step.upd c.o4 c.dj (fun _ z => by cases z)
  refine ⟨{ c with o := by rw [upd_ne (ne_of c.o c.dj (by intro q; cases q))]; exact c.o, dh := by rw [upd_ne c.n13]; exact c.dh, rh := c.rh.tk st.tk, dp := by rw [upd_ne c.n23]; exact c.dp, dj := upd_same, lj := hz, dm := by rw [upd_ne c.n34.symm]; exact c.dm, di := by rw [upd_ne (ne_of c.di c.dj (by intro q; cases q))]; exact c.di, ri := c.ri.tk st.tk, mo := fun a h => ?_ }, st⟩
  obtain ⟨l, ys, h1, h2, h3, h4, h5⟩ := c.mo a h
  exact ⟨l, ys, h1, h2, h3, by rw [upd_ne (ne_of h4 c.dj (by intro q; cases q))]; exact h4, h5⟩
/-- homes[x] = h; mourned[x] = [] -/
theorem HC.setHM (c : HC CH H p own s n dx hA pA jA mA iA kH kP kJ kM xs) {l : Addr} {x : Str} {h : List Int} {v : V} {Hc : Hp} (hv : Fz H v (.tup (ik h))) (sb : Same (upd H hA (.dK (putK kH (kS x) v))) Hc) (hl : Hc l = some (.lst [])) (hn : upd H hA (.dK (putK kH (kS x) v)) l = none) (hz : (putK kM (kS x) (.ref l)).length ≤ n) (hzh : (aput s.homes x h).length ≤ n) :
    HC CH (upd Hc mA (.dK (putK kM (kS x) (.ref l)))) p (fun a => own a ∨ a = l) ⟨aput s.homes x h, s.parents, s.idle⟩ n dx hA pA jA mA iA (putK kH (kS x) v) kP kJ (putK kM (kS x) (.ref l)) xs ∧
      Step own H (fun a => own a ∨ a = l) (upd Hc mA (.dK (putK kM (kS x) (.ref l)))) := by
  have st1 : Step own H own (upd H hA (.dK (putK kH (kS x) v))) := Step.upd c.o2 c.dh (fun _ z => by cases z)
  have at1 : ∀ {a o}, H a = some o → a ≠ hA → Hc a = some o := fun e ne => sb _ _ (by rw [upd_ne ne]; exact e)
  have dm := at1 c.dm c.n14.symm
  have st3 : Step own Hc own (upd Hc mA (.dK (putK kM (kS x) (.ref l)))) := Step.upd c.o5 dm (fun _ z => by cases z)
  have st := (st1.trans (.of_same sb)).trans st3
  have at2 : ∀ {a o}, H a = some o → a ≠ hA → a ≠ mA → upd Hc mA (.dK (putK kM (kS x) (.ref l))) a = some o := fun e ne ne2 => by rw [upd_ne ne2]; exact at1 e ne
  refine ⟨{ c with o := at2 c.o (ne_of c.o c.dh (by intro q; cases q)) (ne_of c.o c.dm (by intro q; cases q)), dh := by rw [upd_ne c.n14]; exact sb _ _ upd_same, rh := (c.rh.tk st.tk).put kS_inj (hv.tk st.tk), dp := at2 c.dp c.n12.symm c.n24, dj := at2 c.dj c.n13.symm c.n34, dm := upd_same, lm := hz, di := at2 c.di (ne_of c.di c.dh (by intro q; cases q)) (ne_of c.di c.dm (by intro q; cases q)), ri := c.ri.tk st.tk, zh := hzh, mo := fun a h => ?_, o1 := .inl c.o1, o2 := .inl c.o2, o3 := .inl c.o3, o4 := .inl c.o4, o5 := .inl c.o5, o6 := .inl c.o6 }, { st with fresh := fun a h => ?_ }⟩
  · rw [valV_put]
    by_cases e : a = x
    · subst e
      refine ⟨l, [], by simp, ?_, .inr rfl, by rw [upd_ne (ne_of hl dm (by intro q; cases q))]; exact hl, Nat.zero_le _⟩
      intro z
      rw [z, upd_ne (ne_of c.di c.dh (by intro q; cases q)), c.di] at hn
      cases hn
    · have h : (aget (aput s.homes x _) a).isSome = true := h
      rw [aget_put, if_neg e] at h
      obtain ⟨l', ys, h1, h2, h3, h4, h5⟩ := c.mo a h
      exact ⟨l', ys, by rw [if_neg (fun z => e (kS_inj _ _ z))]; exact h1, h2, .inl h3, at2 h4 (ne_of h4 c.dh (by intro q; cases q)) (ne_of h4 c.dm (by intro q; cases q)), h5⟩
  · rcases h with h | h
    · exact .inl h
    · subst h
      exact .inr (st1.live _ hn)
theorem HC.mono (c : HC CH H p own s n dx hA pA jA mA iA kH kP kJ kM xs) {m : Nat} (h : n ≤ m) : HC CH H p own s m dx hA pA jA mA iA kH kP kJ kM xs :=
  { c with lj := Nat.le_trans c.lj h, lm := Nat.le_trans c.lm h, zh := Nat.le_trans c.zh h, zp := Nat.le_trans c.zp h, zi := Nat.le_trans c.zi h, mo := fun a q => let ⟨l, ys, h1, h2, h3, h4, h5⟩ := c.mo a q; ⟨l, ys, h1, h2, h3, h4, Nat.le_trans h5 h⟩ }
/-- one of the lists grows -/
theorem HC.setL (c : HC CH H p own s n dx hA pA jA mA iA kH kP kJ kM xs) {l : Addr} {ys : List V} {y : V} (hl : H l = some (.lst ys)) (hi : l ≠ iA) (ho : own l) (hz : ys.length + 1 ≤ n) :
    HC CH (upd H l (.lst (ys ++ [y]))) p own s n dx hA pA jA mA iA kH kP kJ kM xs ∧ Step own H own (upd H l (.lst (ys ++ [y]))) := by
  have st : Step own H own (upd H l (.lst (ys ++ [y]))) := Step.upd ho hl (fun _ z => by cases z)
  refine ⟨{ c with o := by rw [upd_ne (ne_of c.o hl (by intro q; cases q))]; exact c.o, dh := by rw [upd_ne (ne_of c.dh hl (by intro q; cases q))]; exact c.dh, rh := c.rh.tk st.tk, dp := by rw [upd_ne (ne_of c.dp hl (by intro q; cases q))]; exact c.dp, dj := by rw [upd_ne (ne_of c.dj hl (by intro q; cases q))]; exact c.dj, dm := by rw [upd_ne (ne_of c.dm hl (by intro q; cases q))]; exact c.dm, di := by rw [upd_ne hi.symm]; exact c.di, ri := c.ri.tk st.tk, mo := fun a h => ?_ }, st⟩
  obtain ⟨l', zs, h1, h2, h3, h4, h5⟩ := c.mo a h
  by_cases e : l' = l
  · subst e
    rw [hl] at h4
    cases h4
    exact ⟨_, _, h1, h2, h3, upd_same, by simp only [List.length_append, List.length_cons, List.length_nil]; omega⟩
  · exact ⟨l', zs, h1, h2, h3, by rw [upd_ne e]; exact h4, h5⟩
theorem HC.setI (c : HC CH H p own s n dx hA pA jA mA iA kH kP kJ kM xs) {y : V} {g : Page} (f : Fz H y g.key) (hz : s.idle.length + 1 ≤ n) :
    HC CH (upd H iA (.lst (xs ++ [y]))) p own ⟨s.homes, s.parents, s.idle ++ [g]⟩ n dx hA pA jA mA iA kH kP kJ kM (xs ++ [y]) ∧ Step own H own (upd H iA (.lst (xs ++ [y]))) := by
  have st : Step own H own (upd H iA (.lst (xs ++ [y]))) := Step.upd c.o6 c.di (fun _ z => by cases z)
  refine ⟨{ c with o := by rw [upd_ne (ne_of c.o c.di (by intro q; cases q))]; exact c.o, dh := by rw [upd_ne (ne_of c.dh c.di (by intro q; cases q))]; exact c.dh, rh := c.rh.tk st.tk, dp := by rw [upd_ne (ne_of c.dp c.di (by intro q; cases q))]; exact c.dp, dj := by rw [upd_ne (ne_of c.dj c.di (by intro q; cases q))]; exact c.dj, dm := by rw [upd_ne (ne_of c.dm c.di (by intro q; cases q))]; exact c.dm, di := upd_same, ri := ?ri, zi := ?zi, mo := fun a h => ?mo }, st⟩
  case ri =>
    rw [List.map_append]
    exact (c.ri.tk st.tk).append (.one (f.tk st.tk))
  case zi => simp only [List.length_append, List.length_cons, List.length_nil]; omega
  case mo =>
    obtain ⟨l', zs, h1, h2, h3, h4, h5⟩ := c.mo a h
    exact ⟨l', zs, h1, h2, h3, by rw [upd_ne h2]; exact h4, h5⟩
end
end K34
namespace K34
open PySem PySem.Spec L2

section
variable {K : PySem.W.Frag} {σ : St} {H : Hp} {tt : TT} {D : Ends} {tu tw tz : TS} {v : V} {pg : Page} {k : NestedKey}
theorem s_ifT (h : EvT tt σ H true) (k : ∀ H1, Same H H1 → tu D σ H1) : tIfS tt tu tw D σ H := s_if h (fun _ => k) (fun e => by cases e)
theorem s_ifF (h : EvT tt σ H false) (k : ∀ H1, Same H H1 → tw D σ H1) : tIfS tt tu tw D σ H := s_if h (fun e => by cases e) (fun _ => k)
theorem kind_dec (p : Page) (i : Nat) (s : Str) (hs : kindsL[i]? = some s) : decide (p.kind = s) = decide (p.kix = i) := by
  have a := kix_kind p
  by_cases h : p.kix = i
  · subst h
    rw [hs] at a
    have e := Option.some.inj a.1
    simp [e]
  · have : p.kind ≠ s := fun z => by
      rw [z] at a
      rcases Nat.lt_trichotomy p.kix i with l | l | l
      · have K8 : ∀ i m, m < i → i < 8 → kindsL[m]? ≠ kindsL[i]? := by
          have : ∀ i, i < 8 → ∀ m, m < i → kindsL[m]? ≠ kindsL[i]? := by decide +kernel
          exact fun i m h1 h2 => this i h2 m h1
        have hi : i < 8 := (List.getElem?_eq_some_iff.mp hs).1
        exact K8 i p.kix l hi (a.1.trans hs.symm)
      · exact h l
      · exact a.2 i l hs
    simp [this, h]
theorem pg_ix {i n : Nat} (h : σ[i]? = some (some v)) (f : Fz H v pg.key) (e : pg.items[n]? = some k) : EvF (tOp (rIxT K) (tVar i) (tC (.int (n : Int)))) σ H k := ef_ix (ks := pg.items) (ef_var h f) ev_c (atI_of e)
theorem et_kind {i : Nat} {s : Str} (j : Nat) (h : σ[i]? = some (some v)) (f : Fz H v pg.key) (hs : kindsL[j]? = some s) : EvT (tTest (tOp rEq (tOp (rIxT K) (tVar i) (tC (.int 0))) (tC (.str s)))) σ H (decide (pg.kix = j)) :=
  (et_test (ev_eqS (ev_of_str (pg_ix (n := 0) (pg := pg) h f rfl)) ev_c)).of (kind_dec pg j s hs)
end
def namesK : Page → List Str
  | .house _ a _ => [a]
  | .part _ a b _ => [a, b]
  | .join _ a b => [a, b]
  | .home _ a _ => [a]
  | .mourn _ a _ => [a]
  | .ahead _ a b => [a, b]
  | .going _ _ a b => [a, b]
def namesR (ks : List NestedKey) (k : NestedKey) : Prop := ∃ p : Page, ks = [p.key] ∧ k = .tup (txs (namesK p))
def alone (p : Page) : Bool := decide (p.kix = 0) || (decide (p.kix = 3) || decide (p.kix = 4))
theorem alone_mem (p : Page) : decide (NestedKey.text p.kind ∈ txs aloneL) = alone p := by
  unfold alone
  rw [← kind_dec p 0 "house" rfl, ← kind_dec p 3 "home" rfl, ← kind_dec p 4 "mourn" rfl]
  have e : (NestedKey.text p.kind ∈ txs aloneL) ↔ (p.kind = ("house" : Str) ∨ p.kind = ("home" : Str) ∨ p.kind = ("mourn" : Str)) := by
    simp [txs, aloneL]
  simp [e]
section
variable {P : Program} {w : World} {K : PySem.W.Frag} {mg : Str → Option Value} {base : Heap} {CH CW aK aA aG : Addr}
theorem sc_names_of : FnScope ["page"] ["page"] (defScope s_names_of) := ⟨rfl, rfl, rfl, by decide +kernel, rfl, by decide +kernel, by decide +kernel⟩
theorem ok_names_of (T : Txt K mg CH CW aK aA aG) (D : Dat K mg "names_of" "names_of" s_names_of ["page"]) : OK P w K mg base 1 "names_of" ["page"] (fspR namesR) := by
  refine ok_mk D sc_names_of (fun vs H Q E h => ?_) (fun f cdv A outer s H vs Q E hr h => ?_)
  · obtain ⟨ks, k, f, ⟨p, rfl, _⟩, _⟩ := h
    exact f.length
  · obtain ⟨ks, k, f, ⟨p, rfl, rfl⟩, q⟩ := h
    obtain ⟨v, rfl, f1⟩ := f.one_inv
    have hu := hr.units
    have hu0 := hr.units0
    have hu1 : _ + 1 < cLine := Nat.lt_of_le_of_lt (Nat.add_le_add_left (by decide : 1 ≤ 64) _) hu
    refine ⟨_, (pss_cons (ps_if (pt_cmpR (op_inK hu) (pe_ix ix_tup (pv 0) pe_int (fun _ _ => rfl)) (pe_glob (v := .ref aA) (by rfl) T.alone rfl) (by with_unfolding_all rfl)) (pss_one (ps_ret (pe_tup (pa_cons (pe_ix ix_tup (pv 0) pe_int (fun _ _ => rfl)) pa_nil)))) pss_nil) (pss_one (ps_ret (pe_tup (pa_cons (pe_ix ix_tup (pv 0) pe_int (fun _ _ => rfl)) (pa_cons (pe_ix ix_tup (pv 0) pe_int (fun _ _ => rfl)) pa_nil)))))), ?_⟩
    have et : EvT (tTest (tOp (rInK K) (tOp (rIxT K) (tVar 0) (tC (.int 0))) (tC (.ref aA)))) [some v] H (alone p) := (et_test (ev_inG (pg_ix (n := 0) (pg := p) rfl f1 rfl) (by simp [NestedKey.depth]) ev_c T.sqA)).of (alone_mem p)
    have e1 : ∀ {H1 : Hp} {a : Str}, Same H H1 → p.items[2]? = some (.text a) → EvF (tTup (tCons (tOp (rIxT K) (tVar 0) (tC (.int 2))) tNil)) [some v] H1 (.tup (txs [a])) := fun s h => ef_tup (ks := [_]) (ea_cons (pg_ix (n := 2) (pg := p) rfl (f1.sm s) h) ea_nil)
    have e2 : ∀ {H1 : Hp} {a b : Str}, Same H H1 → p.items[2]? = some (.text a) → p.items[3]? = some (.text b) → EvF (tTup (tCons (tOp (rIxT K) (tVar 0) (tC (.int 2))) (tCons (tOp (rIxT K) (tVar 0) (tC (.int 3))) tNil))) [some v] H1 (.tup (txs [a, b])) := fun s h h' => ef_tup (ks := [_, _]) (ea_cons (pg_ix (n := 2) (pg := p) rfl (f1.sm s) h) (ea_cons (pg_ix (n := 3) (pg := p) rfl (f1.sm s) h') ea_nil))
    cases p with
    | house d a h => exact seqi (s_ifT et fun H1 s1 => s_ret (e1 s1 rfl) fun v H' s => q v H' (s1.trans s))
    | home d a h => exact seqi (s_ifT et fun H1 s1 => s_ret (e1 s1 rfl) fun v H' s => q v H' (s1.trans s))
    | mourn d a h => exact seqi (s_ifT et fun H1 s1 => s_ret (e1 s1 rfl) fun v H' s => q v H' (s1.trans s))
    | part d a b h => exact seqi (s_ifF et fun H1 s1 => s_ret (e2 s1 rfl rfl) fun v H' s => q v H' (s1.trans s))
    | join d a b => exact seqi (s_ifF et fun H1 s1 => s_ret (e2 s1 rfl rfl) fun v H' s => q v H' (s1.trans s))
    | ahead d a b => exact seqi (s_ifF et fun H1 s1 => s_ret (e2 s1 rfl rfl) fun v H' s => q v H' (s1.trans s))
    | going v d a b =>
      have et := et.of (show alone (.going v d a b) = false by cases v <;> rfl)
      exact seqi (s_ifF et fun H1 s1 => s_ret (e2 s1 rfl rfl) fun v H' s => q v H' (s1.trans s))
/-! ### the methods of Houses -/
def spCan (CH : Addr) : Sp := fun vs H Q _ => ∃ p own s n v pg, vs = [.ref p, v] ∧ HousesAt CH H p own s n ∧ Fz H v (Page.key pg) ∧ ∀ H', Same H H' → Q (.bl (s.can pg)) H'
theorem sc_Houses_can : FnScope ["self", "page", "name"] ["self", "page"] (defScope s_Houses_can) := ⟨rfl, rfl, rfl, by decide +kernel, rfl, by decide +kernel, by decide +kernel⟩
theorem ok_can (T : Txt K mg CH CW aK aA aG) (D : Mat K CH "can" "Houses.can" s_Houses_can ["self", "page"]) (G_names_of : OK P w K mg base 1 "names_of" ["page"] (fspR namesR)) : MOK P w K mg base 3 CH "can" ["self", "page"] (spCan CH) := by
  refine mok_mk D sc_Houses_can (fun vs H Q E h => ?_) (fun f cdv A outer s H vs Q E hr h => ?_)
  · obtain ⟨p, own, s, n, v, pg, rfl, _⟩ := h
    rfl
  · obtain ⟨p, own, s, n, v, pg, rfl, ⟨dx, hA, pA, jA, mA, iA, kH, kP, kJ, kM, xs, c⟩, f1, q⟩ := h
    have hu := hr.units
    have hu0 := hr.units0
    have hu1 : _ + 1 < cLine := Nat.lt_of_le_of_lt (Nat.add_le_add_left (by decide : 1 ≤ 64) _) hu
    refine ⟨_, (pss_cons (ps_if (pt_cmpR op_eq (pe_ix ix_tup (pv 1) pe_int (fun _ _ => rfl)) pe_str (nomark _)) (pss_one (ps_ret (pe_cmp (pc_dnotin hu1 (pe_ix ix_tup (pv 1) pe_int (fun _ _ => rfl)) (pe_fld (pv 0) (by rfl))) (by with_unfolding_all rfl)))) pss_nil) (pss_cons (ps_if (pt_cmpR op_eq (pe_ix ix_tup (pv 1) pe_int (fun _ _ => rfl)) pe_str (nomark _)) (pss_one (ps_ret (pe_and (pe_cmp (pc_din hu1 (pe_ix ix_tup (pv 1) pe_int (fun _ _ => rfl)) (pe_fld (pv 0) (by rfl))) (by with_unfolding_all rfl)) (pe_one (pe_cmp (pc_dnotin hu1 (pe_ix ix_tup (pv 1) pe_int (fun _ _ => rfl)) (pe_fld (pv 0) (by rfl))) (by with_unfolding_all rfl)))))) pss_nil) (pss_one (ps_ret (pe_callB (cr_all rfl) (by rfl) T.all b_all (pa_cons (pe_lc (own := [("name", 2)]) rfl sc_Houses_can.nd (pi_tup (px_call G_names_of (hr.mono (by decide)) (by rfl) (pa_cons (pv 1) pa_nil))) (blkOk_by (own := [("name", 2)]) (N := ["self", "page", "name"]) (sc := defScope s_Houses_can) (by decide +kernel)) (fun _ _ _ _ _ => (pg_name (i := 2) sc_Houses_can.nd rfl (Or.inl rfl))) (fun _ _ _ _ _ => pts_nil) (fun _ _ _ _ _ => (pe_cmp (pc_din hu1 (pv 2) (show PE _ _ (tFld K _ _) from (pe_fld (pv 0) (by rfl)))) (by with_unfolding_all rfl)))) pa_nil)))))), ?_⟩
    have fh : ∀ {H1 : Hp} {σ : St}, Same H H1 → σ[0]? = some (some (.ref p)) → EvV (tFld K (tVar 0) "homes") σ H1 (.ref hA) := fun s1 e => ev_fld (ev_var e) (s1 _ _ c.o) T.clH (T.noH _ (by simp)) (hfs1 _ _ _ _ _)
    have fp : ∀ {H1 : Hp} {σ : St}, Same H H1 → σ[0]? = some (some (.ref p)) → EvV (tFld K (tVar 0) "parents") σ H1 (.ref pA) := fun s1 e => ev_fld (ev_var e) (s1 _ _ c.o) T.clH (T.noH _ (by simp)) (hfs2 _ _ _ _ _)
    have isH : ∀ a, (valV kH (kS a)).isSome = (aget s.homes a).isSome := fun a => c.rh.isSome kS_inj a
    have isP : ∀ a, (valV kP (kS a)).isSome = (aget s.parents a).isSome := fun a => c.rp.isSome kS_inj a
    have t0 : ∀ {H1 : Hp}, Same H H1 → EvT (tTest (tOp rEq (tOp (rIxT K) (tVar 1) (tC (.int 0))) (tC (.str "house")))) [some (.ref p), some v, none] H1 (decide (pg.kix = 0)) := fun s1 => et_kind 0 rfl (f1.sm s1) rfl
    have t1 : ∀ {H1 : Hp}, Same H H1 → EvT (tTest (tOp rEq (tOp (rIxT K) (tVar 1) (tC (.int 0))) (tC (.str "part")))) [some (.ref p), some v, none] H1 (decide (pg.kix = 1)) := fun s1 => et_kind 1 rfl (f1.sm s1) rfl
    have last : ∀ {H1 : Hp}, Same H H1 → pg.kix ≠ 0 → pg.kix ≠ 1 → s.can pg = ((namesK pg).map fun a => (aget s.homes a).isSome).all id → ∀ {te : TE}, (∀ (H2 : Hp) (x : Str), Same H1 H2 → EvV te [some (.ref p), some v, some (.str x)] H2 (.bl (aget s.homes x).isSome)) →
        EvV (tCB (rAll K) (tCons (tLc (iTup K (tCall (fspR namesR) [] E0 (tCons (tVar 1) tNil))) (gName 2) tYes te [2]) tNil)) [some (.ref p), some v, none] H1 (.bl (s.can pg)) := by
      intro H1 s1 n0 n1 e te hte
      rw [e]
      have g := ev_all (K := K) (el_lcTb (K := K) (σ := [some (.ref p), some v, none]) (H := H1) (vs := [2]) (j := 2) (te := te) (js := txs (namesK pg)) (fun k => match k with | .text a => (aget s.homes a).isSome | _ => false) (tl := tCall (fspR namesR) [] E0 (tCons (tVar 1) tNil)) (ef_callR (ea_cons (ef_var rfl (f1.sm s1)) ea_nil) ⟨pg, rfl, rfl⟩) (by rw [show (txs (namesK pg)).length = (namesK pg).length from List.length_map _]; cases pg <;> simp [namesK]) (fun _ => rfl) (fun x k H2 hk s2 fx => by
        obtain ⟨a, _, rfl⟩ := List.mem_map.mp hk
        obtain rfl := fx.str_inv
        exact hte H2 a s2))
      have e2 : (txs (namesK pg)).map (fun k => match k with | .text a => (aget s.homes a).isSome | _ => false) = (namesK pg).map fun a => (aget s.homes a).isSome := by
        unfold txs
        rw [List.map_map] <;> rfl
      rw [e2] at g
      exact g
    have lastH : ∀ (H2 : Hp) (x : Str), Same H H2 → EvV (tDIn (tVar 2) (tFld K (tVar 0) "homes")) [some (.ref p), some v, some (.str x)] H2 (.bl (aget s.homes x).isSome) := fun H2 x s2 => by
      have g := ev_din (ev_var (σ := [some (.ref p), some v, some (.str x)]) (i := 2) rfl) (fh s2 rfl) (s2 _ _ c.dh)
      rw [isH x] at g
      exact g
    cases pg with
    | house d a h =>
      refine seqi (s_ifT (t0 (.refl _)) fun H1 s1 => ?_)
      have g := ev_dnotin (σ := [some (.ref p), some v, none]) (ev_of_str (pg_ix (K := K) (n := 2) (i := 1) rfl (f1.sm s1) rfl)) (fp s1 rfl) (s1 _ _ c.dp)
      rw [isP] at g
      exact s_ret g fun u H2 s2 e => by subst e; exact q H2 (s1.trans s2)
    | part d a b h =>
      refine seqi (s_ifF (t0 (.refl _)) fun H1 s1 => seqi (s_ifT (t1 s1) fun H2 s2 => ?_))
      have s3 := s1.trans s2
      have g1 := ev_din (σ := [some (.ref p), some v, none]) (ev_of_str (pg_ix (K := K) (n := 2) (i := 1) rfl (f1.sm s3) rfl)) (fh s3 rfl) (s3 _ _ c.dh)
      have g2 := ev_dnotin (σ := [some (.ref p), some v, none]) (ev_of_str (pg_ix (K := K) (n := 3) (i := 1) rfl (f1.sm s3) rfl)) (fp s3 rfl) (s3 _ _ c.dp)
      rw [isH] at g1
      rw [isP] at g2
      exact s_ret (ev_andV g1 fun _ => g2) fun u H2 s2 e => by subst e; exact q H2 (s3.trans s2)
    | join d a b => exact seqi (s_ifF (t0 (.refl _)) fun H1 s1 => seqi (s_ifF (t1 s1) fun H2 s2 => s_ret (last (s1.trans s2) (by simp [Page.kix]) (by simp [Page.kix]) (by simp [HS.can, namesK]) fun H3 x s3 => lastH H3 x ((s1.trans s2).trans s3)) fun u H3 s3 e => by subst e; exact q H3 ((s1.trans s2).trans s3)))
    | home d a b => exact seqi (s_ifF (t0 (.refl _)) fun H1 s1 => seqi (s_ifF (t1 s1) fun H2 s2 => s_ret (last (s1.trans s2) (by simp [Page.kix]) (by simp [Page.kix]) (by simp [HS.can, namesK]) fun H3 x s3 => lastH H3 x ((s1.trans s2).trans s3)) fun u H3 s3 e => by subst e; exact q H3 ((s1.trans s2).trans s3)))
    | mourn d a b => exact seqi (s_ifF (t0 (.refl _)) fun H1 s1 => seqi (s_ifF (t1 s1) fun H2 s2 => s_ret (last (s1.trans s2) (by simp [Page.kix]) (by simp [Page.kix]) (by simp [HS.can, namesK]) fun H3 x s3 => lastH H3 x ((s1.trans s2).trans s3)) fun u H3 s3 e => by subst e; exact q H3 ((s1.trans s2).trans s3)))
    | ahead d a b => exact seqi (s_ifF (t0 (.refl _)) fun H1 s1 => seqi (s_ifF (t1 s1) fun H2 s2 => s_ret (last (s1.trans s2) (by simp [Page.kix]) (by simp [Page.kix]) (by simp [HS.can, namesK]) fun H3 x s3 => lastH H3 x ((s1.trans s2).trans s3)) fun u H3 s3 e => by subst e; exact q H3 ((s1.trans s2).trans s3)))
    | going b d a o =>
      have e0 : decide ((Page.going b d a o).kix = 0) = false := by cases b <;> rfl
      have e1 : decide ((Page.going b d a o).kix = 1) = false := by cases b <;> rfl
      exact seqi (s_ifF ((t0 (.refl _)).of e0) fun H1 s1 => seqi (s_ifF ((t1 s1).of e1) fun H2 s2 => s_ret (last (s1.trans s2) (of_decide_eq_false e0) (of_decide_eq_false e1) (by simp [HS.can, namesK]) fun H3 x s3 => lastH H3 x ((s1.trans s2).trans s3)) fun u H3 s3 e => by subst e; exact q H3 ((s1.trans s2).trans s3)))
end
end K34
namespace K34
open PySem PySem.Spec L2

section
variable {P : Program} {w : World} {K : PySem.W.Frag} {mg : Str → Option Value} {base : Heap} {CH CW aK aA aG : Addr}
def spCome (CH : Addr) : Sp := fun vs H Q _ => ∃ p own s n x par hv h, vs = [.ref p, .str x, par, hv] ∧ HousesAt CH H p own s n ∧ Fz H hv (.tup (ik h)) ∧ n < 900 ∧ ∀ H' own', Step own H own' H' → HousesAt CH H' p own' (s.come x h) (n + 1) → Q .non H'
theorem putK_len {κ : Type} [DecidableEq κ] (kvs : List (κ × V)) (k : κ) (v : V) : (putK kvs k v).length ≤ kvs.length + 1 := by
  unfold putK
  split
  · rw [List.length_map]; omega
  · simp
theorem sc_Houses_come : FnScope ["self", "name", "parent", "home"] ["self", "name", "parent", "home"] (defScope s_Houses_come) := ⟨rfl, rfl, rfl, by decide +kernel, rfl, by decide +kernel, by decide +kernel⟩
theorem ok_come (T : Txt K mg CH CW aK aA aG) (D : Mat K CH "come" "Houses.come" s_Houses_come ["self", "name", "parent", "home"]) : MOK P w K mg base 1 CH "come" ["self", "name", "parent", "home"] (spCome CH) := by
  refine mok_mk D sc_Houses_come (fun vs H Q E h => ?_) (fun f cdv A outer s H vs Q E hr h => ?_)
  · obtain ⟨p, own, s, n, x, par, hv, h, rfl, _⟩ := h
    rfl
  · obtain ⟨p, own, s, n, x, par, hv, h, rfl, ⟨dx, hA, pA, jA, mA, iA, kH, kP, kJ, kM, xs, c⟩, f1, hn, q⟩ := h
    have hu := hr.units
    have hu0 := hr.units0
    have hu1 : _ + 1 < cLine := Nat.lt_of_le_of_lt (Nat.add_le_add_left (by decide : 1 ≤ 64) _) hu
    refine ⟨_, (pss_cons (ps_dput hu1 (pe_fld (pv 0) (by rfl)) (pv 1) (pv 2) rfl) (pss_cons (ps_dput hu1 (pe_fld (pv 0) (by rfl)) (pv 1) (pv 3) rfl) (pss_one (ps_dput hu1 (pe_fld (pv 0) (by rfl)) (pv 1) (pe_lst pa_nil) rfl)))), ?_⟩
    have c0 := c
    have c := c.mono (Nat.le_succ n)
    have zp := c0.zp
    have zh := c0.zh
    have lp := c.rp.length
    have lh := c.rh.length
    have lm := c0.lm
    refine seqi (s_dput (P := fun _ _ => True) (fun _ _ _ _ h => h) ((ev_var rfl).imp fun _ _ _ _ => trivial) (ev_fld (ev_var rfl) c.o T.clH (T.noH _ (by simp)) (hfs2 _ _ _ _ _)) (ev_var rfl) c.dp (by omega) fun v1 H1 s1 _ => ?_)
    obtain ⟨c1, st1⟩ := (c.sm s1).setP (kP' := putK kP (kS x) v1) (l := aput s.parents x ()) (c.rp.put kS_inj trivial) (Nat.le_trans (aput_length _ _ _) (by omega))
    have st1 := (Step.of_same (own := own) s1).trans st1
    refine seqi (s_dput (P := fun v H => Fz H v (.tup (ik h))) kp_fz (ef_var rfl (f1.tk st1.tk)) (ev_fld (ev_var rfl) c1.o T.clH (T.noH _ (by simp)) (hfs1 _ _ _ _ _)) (ev_var rfl) c1.dh (by omega) fun v2 H2 s2 f2 => ?_)
    have c2 := c1.sm s2
    refine ⟨Nat.zero_le _, fun l hl => ?_⟩
    have s3 := Same.new (o := .lst []) hl
    have e3 : ∀ {a o}, H2 a = some o → a ≠ hA → upd (upd H2 hA (.dK (putK kH (kS x) v2))) l (.lst []) a = some o := fun e ne => s3 _ _ (by rw [upd_ne ne]; exact e)
    refine ⟨_, rfl, p, CH, dx, _, _, rfl, e3 c2.o (ne_of c2.o c2.dh (by intro q; cases q)), T.clH, T.noH _ (by simp), hfs4 _ _ _ _ _, _, rfl, mA, _, rfl, .inl ⟨kM, kS x, e3 c2.dm c2.n14.symm, rfl, Nat.lt_of_le_of_lt (Nat.le_trans lm (by omega : n ≤ 900)) (by decide), rfl⟩, ?_⟩
    obtain ⟨c3, st3⟩ := c2.setHM (l := l) (x := x) (h := h) f2 s3 upd_same hl (Nat.le_trans (putK_len _ _ _) (by omega)) (Nat.le_trans (aput_length s.homes x h) (Nat.succ_le_succ zh))
    exact q _ _ ((st1.trans (.of_same s2)).trans st3) ⟨_, _, _, _, _, _, _, _, _, _, _, c3⟩
def spDo (CH : Addr) : Sp := fun vs H Q _ => ∃ p own s n v pg, vs = [.ref p, v] ∧ HousesAt CH H p own s n ∧ Fz H v (Page.key pg) ∧ s.can pg = true ∧ n < 900 ∧ ∀ H' own', Step own H own' H' → HousesAt CH H' p own' (s.act pg) (n + 1) → Q .non H'
theorem sc_Houses_do : FnScope ["self", "page"] ["self", "page"] (defScope s_Houses_do) := ⟨rfl, rfl, rfl, by decide +kernel, rfl, by decide +kernel, by decide +kernel⟩
theorem ok_do (T : Txt K mg CH CW aK aA aG) (D : Mat K CH "do" "Houses.do" s_Houses_do ["self", "page"]) (M_come : MOK P w K mg base 1 CH "come" ["self", "name", "parent", "home"] (spCome CH)) : MOK P w K mg base 3 CH "do" ["self", "page"] (spDo CH) := by
  refine mok_mk D sc_Houses_do (fun vs H Q E h => ?_) (fun f cdv A outer s H vs Q E hr h => ?_)
  · obtain ⟨p, own, s, n, v, pg, rfl, _⟩ := h
    rfl
  · obtain ⟨p, own, s, n, v, pg, rfl, ⟨dx, hA, pA, jA, mA, iA, kH, kP, kJ, kM, xs, c⟩, f1, hcan, hn, q⟩ := h
    have hu := hr.units
    have hu0 := hr.units0
    have hu1 : _ + 1 < cLine := Nat.lt_of_le_of_lt (Nat.add_le_add_left (by decide : 1 ≤ 64) _) hu
    refine ⟨_, (pss_one (ps_if (pt_cmpR op_eq (pe_ix ix_tup (pv 1) pe_int (fun _ _ => rfl)) pe_str (nomark _)) (pss_one (ps_expr (px_meth T.clH M_come (hr.mono (by decide)) (pv 0) (pa_cons (pe_ix ix_tup (pv 1) pe_int (fun _ _ => rfl)) (pa_cons pe_non (pa_cons (pe_ix ix_tup (pv 1) pe_int (fun _ _ => rfl)) pa_nil)))))) (pss_one (ps_if (pt_cmpR op_eq (pe_ix ix_tup (pv 1) pe_int (fun _ _ => rfl)) pe_str (nomark _)) (pss_one (ps_expr (px_meth T.clH M_come (hr.mono (by decide)) (pv 0) (pa_cons (pe_ix ix_tup (pv 1) pe_int (fun _ _ => rfl)) (pa_cons (pe_ix ix_tup (pv 1) pe_int (fun _ _ => rfl)) (pa_cons (pe_ix ix_tup (pv 1) pe_int (fun _ _ => rfl)) pa_nil)))))) (pss_one (ps_if (pt_cmpR op_eq (pe_ix ix_tup (pv 1) pe_int (fun _ _ => rfl)) pe_str (nomark _)) (pss_cons (ps_expr (pe_dpop1 (pe_fld (pv 0) (by rfl)) (pe_ix ix_tup (pv 1) pe_int (fun _ _ => rfl)) ⟨rfl, rfl, rfl, rfl⟩)) (pss_one (ps_dput hu1 (pe_fld (pv 0) (by rfl)) (pe_ix ix_tup (pv 1) pe_int (fun _ _ => rfl)) (pe_ix ix_tup (pv 1) pe_int (fun _ _ => rfl)) rfl))) (pss_one (ps_if (pt_cmpR op_eq (pe_ix ix_tup (pv 1) pe_int (fun _ _ => rfl)) pe_str (nomark _)) (pss_one (ps_dput hu1 (pe_fld (pv 0) (by rfl)) (pe_ix ix_tup (pv 1) pe_int (fun _ _ => rfl)) (pe_ix ix_tup (pv 1) pe_int (fun _ _ => rfl)) rfl)) (pss_one (ps_if (pt_cmpR op_eq (pe_ix ix_tup (pv 1) pe_int (fun _ _ => rfl)) pe_str (nomark _)) (pss_one (ps_expr (pe_bm PySem.F.plainAttrs_list PySem.F.slot_list_append PySem.F.type_list_append mt_append (pe_dget hu1 (pe_fld (pv 0) (by rfl)) (pe_ix ix_tup (pv 1) pe_int (fun _ _ => rfl)) (fun _ _ => rfl)) (pa_cons (pe_tup (pa_cons (pe_ix ix_tup (pv 1) pe_int (fun _ _ => rfl)) (pa_cons (pe_op op_add (pe_ix ix_tup (pv 1) pe_int (fun _ _ => rfl)) (pe_ix ix_tup (pv 1) pe_int (fun _ _ => rfl))) pa_nil))) pa_nil)))) pss_nil)))))))))), ?_⟩
    have t : ∀ {H1 : Hp} (j : Nat) {str : Str}, Same H H1 → kindsL[j]? = some str → EvT (tTest (tOp rEq (tOp (rIxT K) (tVar 1) (tC (.int 0))) (tC (.str str)))) [some (.ref p), some v] H1 (decide (pg.kix = j)) := fun j _ s1 e => et_kind j rfl (f1.sm s1) e
    have ix : ∀ {H1 : Hp} {k : NestedKey} (n : Nat), Same H H1 → pg.items[n]? = some k → EvF (tOp (rIxT K) (tVar 1) (tC (.int (n : Int)))) [some (.ref p), some v] H1 k := fun n s1 e => pg_ix rfl (f1.sm s1) e
    have c0 := c
    have c := c.mono (Nat.le_succ n)
    have zh := c0.zh
    have lh := c.rh.length
    have lm := c0.lm
    have lj := c0.lj
    have fh : ∀ {H1 : Hp}, Same H H1 → EvV (tFld K (tVar 0) "homes") [some (.ref p), some v] H1 (.ref hA) := fun s1 => ev_fld (ev_var rfl) (s1 _ _ c.o) T.clH (T.noH _ (by simp)) (hfs1 _ _ _ _ _)
    have fm : ∀ {H1 : Hp}, Same H H1 → EvV (tFld K (tVar 0) "mourned") [some (.ref p), some v] H1 (.ref mA) := fun s1 => ev_fld (ev_var rfl) (s1 _ _ c.o) T.clH (T.noH _ (by simp)) (hfs4 _ _ _ _ _)
    cases pg with
    | house d a h =>
      refine s_ifT (t 0 (.refl _) rfl) fun H1 s1 => ?_
      refine m_call (A := fun vs H2 => FzA H2 vs [.text a, .none, .tup (ik h)]) (ev_var rfl) (s1 _ _ c.o) (hfs_come _ _ _ _ _) (ea_cons (ix 2 s1 rfl) (ea_cons ef_non (ea_cons (ix 3 s1 rfl) ea_nil))) fun vs H2 s2 fa => ?_
      obtain ⟨x, y, z, rfl, fx, fy, fz⟩ := fa.three_inv
      obtain rfl := fx.str_inv
      exact ⟨p, own, s, n, a, y, z, h, rfl, HousesAt.sm ⟨_, _, _, _, _, _, _, _, _, _, _, c0⟩ (s1.trans s2), fz, hn, fun H3 own' st hh => q _ _ ((Step.of_same (s1.trans s2)).trans st) hh⟩
    | part d a b h =>
      refine s_ifF (t 0 (.refl _) rfl) fun H0 s0 => s_ifT (t 1 s0 rfl) fun H1 s1 => ?_
      have s1 := s0.trans s1
      refine m_call (A := fun vs H2 => FzA H2 vs [.text b, .text a, .tup (ik h)]) (ev_var rfl) (s1 _ _ c.o) (hfs_come _ _ _ _ _) (ea_cons (ix 3 s1 rfl) (ea_cons (ix 2 s1 rfl) (ea_cons (ix 4 s1 rfl) ea_nil))) fun vs H2 s2 fa => ?_
      obtain ⟨x, y, z, rfl, fx, fy, fz⟩ := fa.three_inv
      obtain rfl := fx.str_inv
      exact ⟨p, own, s, n, b, y, z, h, rfl, HousesAt.sm ⟨_, _, _, _, _, _, _, _, _, _, _, c0⟩ (s1.trans s2), fz, hn, fun H3 own' st hh => q _ _ ((Step.of_same (s1.trans s2)).trans st) hh⟩
    | join d a b =>
      refine s_ifF (t 0 (.refl _) rfl) fun H0 s0 => s_ifF (t 1 s0 rfl) fun H1 s1 => s_ifT (t 2 (s0.trans s1) rfl) fun H2 s2 => ?_
      have s2 := (s0.trans s1).trans s2
      have hb : (aget s.homes b).isSome = true := by
        simp [HS.can] at hcan
        exact hcan.2
      obtain ⟨hb', e⟩ := Option.isSome_iff_exists.mp hb
      obtain ⟨v', hv', _⟩ := c.rh.some kS_inj e
      refine seqi (s_dpop (fh s2) (ev_of_str (ix 3 s2 rfl)) (s2 _ _ c.dh) hv' fun H4 s4 => ?_)
      have s4 := s2.trans s4
      obtain ⟨c1, st1⟩ := (c.sm s4).setH (kH' := dropK kH (kS b)) (l := adrop s.homes b) ((c.sm s4).rh.drop kS_inj b) (Nat.le_trans (adrop_length _ _) (by omega)) (fun a ha => by
        rw [aget_drop] at ha
        split at ha
        · cases ha
        · exact ha)
      have st1 := (Step.of_same (own := own) s4).trans st1
      refine s_dput (P := fun _ _ => True) (fun _ _ _ _ h => h) ((pg_ix (K := K) (n := 2) (i := 1) (pg := .join d a b) (σ := [some (.ref p), some v]) rfl (f1.tk st1.tk) rfl).imp fun _ _ _ _ => trivial) (ev_fld (ev_var rfl) c1.o T.clH (T.noH _ (by simp)) (hfs3 _ _ _ _ _)) (ev_of_str (pg_ix (K := K) (n := 3) (i := 1) (pg := .join d a b) rfl (f1.tk st1.tk) rfl)) c1.dj (by omega) fun v1 H5 s5 _ => ?_
      obtain ⟨c2, st2⟩ := (c1.sm s5).setJ (kJ' := putK kJ (kS b) v1) (Nat.le_trans (putK_len _ _ _) (by omega))
      exact q _ _ (st1.trans ((Step.of_same s5).trans st2)) ⟨_, _, _, _, _, _, _, _, _, _, _, c2⟩
    | home d a h =>
      refine s_ifF (t 0 (.refl _) rfl) fun H0 s0 => s_ifF (t 1 s0 rfl) fun H1 s1 => s_ifF (t 2 (s0.trans s1) rfl) fun H2 s2 => s_ifT (t 3 ((s0.trans s1).trans s2) rfl) fun H3 s3 => ?_
      have s3 := ((s0.trans s1).trans s2).trans s3
      have ha : (aget s.homes a).isSome = true := hcan
      refine s_dput (P := fun v H => Fz H v (.tup (ik h))) kp_fz (ix 3 s3 rfl) (fh s3) (ev_of_str (ix 2 s3 rfl)) (s3 _ _ c.dh) (by omega) fun v1 H4 s4 f4 => ?_
      have s4 := s3.trans s4
      obtain ⟨c1, st1⟩ := (c.sm s4).setH (kH' := putK kH (kS a) v1) (l := aput s.homes a h) ((c.sm s4).rh.put kS_inj f4) (Nat.le_trans (aput_length _ _ _) (by omega)) (fun x hx => by
        rw [aget_put] at hx
        split at hx
        · rename_i e
          rw [e]
          exact ha
        · exact hx)
      exact q _ _ ((Step.of_same s4).trans st1) ⟨_, _, _, _, _, _, _, _, _, _, _, c1⟩
    | mourn d a m =>
      refine s_ifF (t 0 (.refl _) rfl) fun H0 s0 => s_ifF (t 1 s0 rfl) fun H1 s1 => s_ifF (t 2 (s0.trans s1) rfl) fun H2 s2 => s_ifF (t 3 ((s0.trans s1).trans s2) rfl) fun H3 s3 => s_ifT (t 4 (((s0.trans s1).trans s2).trans s3) rfl) fun H4 s4 => ?_
      have s4 := (((s0.trans s1).trans s2).trans s3).trans s4
      obtain ⟨l, ys, h1, h2, h3, h4, h5⟩ := c0.mo a hcan
      refine s_app (P := fun _ _ => True) (fun _ _ _ _ h => h) (ev_dget (fm s4) (ev_of_str (ix 2 s4 rfl)) (s4 _ _ c.dm) h1) ((ef_tup (ks := [.num d, .num (d + m)]) (ea_cons (ix 1 s4 rfl) (ea_cons (ef_of_int (ev_I0 (g := fun i j => .int (i + j)) (ev_of_int (ix 1 s4 rfl)) (ev_of_int (ix 3 s4 rfl)))) ea_nil))).imp fun _ _ _ _ => trivial) (s4 _ _ h4) (by omega) fun v1 H5 s5 _ => ?_
      have s5 := s4.trans s5
      obtain ⟨c1, st1⟩ := (c.sm s5).setL (y := v1) (s5 _ _ h4) h2 h3 (by omega)
      exact q _ _ ((Step.of_same s5).trans st1) ⟨_, _, _, _, _, _, _, _, _, _, _, c1⟩
    | ahead d a b =>
      refine s_ifF (t 0 (.refl _) rfl) fun H0 s0 => s_ifF (t 1 s0 rfl) fun H1 s1 => s_ifF (t 2 (s0.trans s1) rfl) fun H2 s2 => s_ifF (t 3 ((s0.trans s1).trans s2) rfl) fun H3 s3 => s_ifF (t 4 (((s0.trans s1).trans s2).trans s3) rfl) fun H4 s4 => ?_
      have s4 := (((s0.trans s1).trans s2).trans s3).trans s4
      exact q _ _ (.of_same s4) ⟨_, _, _, _, _, _, _, _, _, _, _, c.sm s4⟩
    | going b d a o =>
      have k : ∀ j, j < 6 → decide ((Page.going b d a o).kix = j) = false := fun j hj => by
        cases b <;> simp [Page.kix] <;> omega
      refine s_ifF ((t 0 (.refl _) rfl).of (k 0 (by decide))) fun H0 s0 => s_ifF ((t 1 s0 rfl).of (k 1 (by decide))) fun H1 s1 => s_ifF ((t 2 (s0.trans s1) rfl).of (k 2 (by decide))) fun H2 s2 => s_ifF ((t 3 ((s0.trans s1).trans s2) rfl).of (k 3 (by decide))) fun H3 s3 => s_ifF ((t 4 (((s0.trans s1).trans s2).trans s3) rfl).of (k 4 (by decide))) fun H4 s4 => ?_
      have s4 := (((s0.trans s1).trans s2).trans s3).trans s4
      exact q _ _ (.of_same s4) ⟨_, _, _, _, _, _, _, _, _, _, _, c.sm s4⟩
def spMeet (CH : Addr) : Sp := fun vs H Q _ => ∃ p own s n v pg, vs = [.ref p, v] ∧ HousesAt CH H p own s n ∧ Fz H v (Page.key pg) ∧ n < 900 ∧ ∀ H' own', Step own H own' H' → HousesAt CH H' p own' (s.meet pg) (n + 1) → Q .non H'
theorem sc_Houses_meet : FnScope ["self", "page"] ["self", "page"] (defScope s_Houses_meet) := ⟨rfl, rfl, rfl, by decide +kernel, rfl, by decide +kernel, by decide +kernel⟩
theorem ok_meet (T : Txt K mg CH CW aK aA aG) (D : Mat K CH "meet" "Houses.meet" s_Houses_meet ["self", "page"]) (M_can : MOK P w K mg base 3 CH "can" ["self", "page"] (spCan CH)) (M_do : MOK P w K mg base 3 CH "do" ["self", "page"] (spDo CH)) : MOK P w K mg base 5 CH "meet" ["self", "page"] (spMeet CH) := by
  refine mok_mk D sc_Houses_meet (fun vs H Q E h => ?_) (fun f cdv A outer s H vs Q E hr h => ?_)
  · obtain ⟨p, own, s, n, v, pg, rfl, _⟩ := h
    rfl
  · obtain ⟨p, own, s, n, v, pg, rfl, hs, f1, hn, q⟩ := h
    obtain ⟨dx, hA, pA, jA, mA, iA, kH, kP, kJ, kM, xs, c⟩ := id hs
    have hu := hr.units
    have hu0 := hr.units0
    have hu1 : _ + 1 < cLine := Nat.lt_of_le_of_lt (Nat.add_le_add_left (by decide : 1 ≤ 64) _) hu
    refine ⟨_, (pss_one (ps_if (pt_val (px_meth T.clH M_can (hr.mono (by decide)) (pv 0) (pa_cons (pv 1) pa_nil))) (pss_one (ps_expr (px_meth T.clH M_do (hr.mono (by decide)) (pv 0) (pa_cons (pv 1) pa_nil)))) (pss_one (ps_expr (pe_bm PySem.F.plainAttrs_list PySem.F.slot_list_append PySem.F.type_list_append mt_append (pe_fld (pv 0) (by rfl)) (pa_cons (pv 1) pa_nil)))))), ?_⟩
    have et : EvT (tB (tMeth CH "can" (spCan CH) [] E0 (tVar 0) (tCons (tVar 1) tNil))) [some (.ref p), some v] H (s.can pg) := et_B fun H1 s1 Q1 q1 => m_call (A := fun vs H2 => FzA H2 vs [pg.key]) (ev_var rfl) (s1 _ _ c.o) (hfs_can _ _ _ _ _) (ea_cons (ef_var rfl (f1.sm s1)) ea_nil) fun vs H2 s2 fa => by
      obtain ⟨x, rfl, fx⟩ := fa.one_inv
      exact ⟨p, own, s, n, x, pg, rfl, hs.sm (s1.trans s2), fx, fun H3 s3 => q1 _ H3 (s2.trans s3) rfl⟩
    refine s_if et (fun hb H1 s1 => ?_) (fun hb H1 s1 => ?_)
    · refine m_call (A := fun vs H2 => FzA H2 vs [pg.key]) (ev_var rfl) (s1 _ _ c.o) (hfs_do _ _ _ _ _) (ea_cons (ef_var rfl (f1.sm s1)) ea_nil) fun vs H2 s2 fa => ?_
      obtain ⟨x, rfl, fx⟩ := fa.one_inv
      refine ⟨p, own, s, n, x, pg, rfl, hs.sm (s1.trans s2), fx, hb, hn, fun H3 own' st hh => q _ _ ((Step.of_same (s1.trans s2)).trans st) ?_⟩
      rw [HS.meet, if_pos hb]
      exact hh
    · have zi := c.zi
      have li := c.ri.length
      rw [List.length_map] at li
      refine s_app (P := fun v H => Fz H v pg.key) kp_fz (ev_fld (ev_var rfl) (s1 _ _ c.o) T.clH (T.noH _ (by simp)) (hfs5 _ _ _ _ _)) (ef_var rfl (f1.sm s1)) (s1 _ _ c.di) (by omega) fun y H2 s2 fy => ?_
      have s2 := s1.trans s2
      obtain ⟨c1, st1⟩ := ((c.sm s2).mono (Nat.le_succ n)).setI fy (Nat.succ_le_succ zi)
      refine q _ _ ((Step.of_same s2).trans st1) ?_
      rw [HS.meet, if_neg (by rw [hb]; decide)]
      exact ⟨_, _, _, _, _, _, _, _, _, _, _, c1⟩
def spAsk (CH : Addr) : Sp := fun vs H Q _ => ∃ p own s n x, vs = [.ref p, .str x] ∧ HousesAt CH H p own s n ∧ (aget s.homes x).isSome = true ∧ ∀ H', Same H H' → Q .non H'
theorem sc_Houses_ask_standing : FnScope ["self", "name"] ["self", "name"] (defScope s_Houses_ask_standing) := ⟨rfl, rfl, rfl, by decide +kernel, rfl, by decide +kernel, by decide +kernel⟩
theorem ok_ask (T : Txt K mg CH CW aK aA aG) (D : Mat K CH "ask_standing" "Houses.ask_standing" s_Houses_ask_standing ["self", "name"]) : MOK P w K mg base 1 CH "ask_standing" ["self", "name"] (spAsk CH) := by
  refine mok_mk D sc_Houses_ask_standing (fun vs H Q E h => ?_) (fun f cdv A outer s H vs Q E hr h => ?_)
  · obtain ⟨p, own, s, n, x, rfl, _⟩ := h
    rfl
  · obtain ⟨p, own, s, n, x, rfl, ⟨dx, hA, pA, jA, mA, iA, kH, kP, kJ, kM, xs, c⟩, hx, q⟩ := h
    have hu := hr.units
    have hu0 := hr.units0
    have hu1 : _ + 1 < cLine := Nat.lt_of_le_of_lt (Nat.add_le_add_left (by decide : 1 ≤ 64) _) hu
    refine ⟨_, (pss_one (ps_if (pt_cmp (pc_dnotin hu1 (pv 1) (pe_fld (pv 0) (by rfl))) (by with_unfolding_all rfl)) (pss_one ps_never) pss_nil)), ?_⟩
    have g := et_B (ev_dnotin (ev_var (σ := [some (.ref p), some (.str x)]) (i := 1) (H := H) rfl) (ev_fld (K := K) (ev_var (i := 0) rfl) c.o T.clH (T.noH "homes" (by simp)) (hfs1 _ _ _ _ _)) c.dh)
    refine s_ifF (g.of ?_) fun H1 s1 => q H1 s1
    have e : (valV kH (kS x)).isSome = true := (c.rh.isSome kS_inj x).trans hx
    show (!(valV kH (kS x)).isSome) = false
    rw [e] <;> rfl
def spHInit (CH : Addr) : Sp := fun vs H Q _ => ∃ p dx, vs = [.ref p] ∧ H p = some (.ins CH dx []) ∧ ∀ H' own, (∀ a o, H a = some o → a ≠ p → H' a = some o) → (∀ a, own a → a = p ∨ H a = none) → HousesAt CH H' p own ⟨[], [], []⟩ 0 → Q .non H'
theorem hput (hA pA jA mA iA : Addr) : putF "idle_pages" (.ref iA) (putF "mourned" (.ref mA) (putF "joined" (.ref jA) (putF "parents" (.ref pA) (putF "homes" (.ref hA) [])))) = hfs hA pA jA mA iA := rfl
theorem sc_Houses_init : FnScope ["self"] ["self"] (defScope s_Houses_init) := ⟨rfl, rfl, rfl, by decide +kernel, rfl, by decide +kernel, by decide +kernel⟩
theorem ok_hinit (T : Txt K mg CH CW aK aA aG) (D : Cat K mg CH "Houses" "Houses.__init__" s_Houses_init ["self"]) : COK P w K mg base 1 CH "Houses" ["self"] (spHInit CH) := by
  refine cok_mk D sc_Houses_init (fun vs H Q E h => ?_) (fun f cdv A outer s H vs Q E hr h => ?_)
  · obtain ⟨p, dx, rfl, _⟩ := h
    rfl
  · obtain ⟨p, dx, rfl, ho, q⟩ := h
    refine ⟨_, (pss_cons (ps_fld (pv 0) pe_dnewK rfl) (pss_cons (ps_fld (pv 0) pe_dnewK rfl) (pss_cons (ps_fld (pv 0) pe_dnewK rfl) (pss_cons (ps_fld (pv 0) pe_dnewK rfl) (pss_one (ps_fld (pv 0) (pe_lst pa_nil) rfl)))))), ?_⟩
    refine q_fldK ho T.clH (T.noH _ (by simp)) (by (repeat apply putF_lt); decide) rfl fun a1 H1 n1 o1 d1 k1 l1 => ?_
    refine q_fldK o1 T.clH (T.noH _ (by simp)) (by (repeat apply putF_lt); decide) rfl fun a2 H2 n2 o2 d2 k2 l2 => ?_
    refine q_fldK o2 T.clH (T.noH _ (by simp)) (by (repeat apply putF_lt); decide) rfl fun a3 H3 n3 o3 d3 k3 l3 => ?_
    refine q_fldK o3 T.clH (T.noH _ (by simp)) (by (repeat apply putF_lt); decide) rfl fun a4 H4 n4 o4 d4 k4 l4 => ?_
    refine s_fldL o4 T.clH (T.noH _ (by simp)) (by (repeat apply putF_lt); decide) rfl fun a5 H5 n5 o5 d5 k5 l5 => ?_
    rw [hput] at o5
    have p1 : a1 ≠ p := ne_of d1 o1 (by intro z; cases z)
    have p2 : a2 ≠ p := ne_of d2 o2 (by intro z; cases z)
    have p3 : a3 ≠ p := ne_of d3 o3 (by intro z; cases z)
    have p4 : a4 ≠ p := ne_of d4 o4 (by intro z; cases z)
    have e1 : H5 a1 = some (.dK []) := k5 _ _ (k4 _ _ (k3 _ _ (k2 _ _ d1 p1) p1) p1) p1
    have e2 : H5 a2 = some (.dK []) := k5 _ _ (k4 _ _ (k3 _ _ d2 p2) p2) p2
    have e3 : H5 a3 = some (.dK []) := k5 _ _ (k4 _ _ d3 p3) p3
    have e4 : H5 a4 = some (.dK []) := k5 _ _ d4 p4
    refine q H5 (fun a => a = p ∨ a = a1 ∨ a = a2 ∨ a = a3 ∨ a = a4 ∨ a = a5) (fun a o e ne => k5 _ _ (k4 _ _ (k3 _ _ (k2 _ _ (k1 _ _ e ne) ne) ne) ne) ne) (fun a h => ?_) ⟨dx, a1, a2, a3, a4, a5, [], [], [], [], [], ?_⟩
    · rcases h with h | h | h | h | h | h
      · exact .inl h
      · exact .inr (by rw [h]; exact n1)
      · exact .inr (by rw [h]; exact l1 _ n2)
      · exact .inr (by rw [h]; exact l1 _ (l2 _ n3))
      · exact .inr (by rw [h]; exact l1 _ (l2 _ (l3 _ n4)))
      · exact .inr (by rw [h]; exact l1 _ (l2 _ (l3 _ (l4 _ n5))))
    · exact { o := o5, dh := e1, rh := .nil, dp := e2, rp := .nil, dj := e3, lj := Nat.le_refl _, dm := e4, lm := Nat.le_refl _, mo := (fun a h => by cases h), di := d5, ri := .nil, zh := Nat.le_refl _, zp := Nat.le_refl _, zi := Nat.le_refl _, o1 := .inl rfl, o2 := .inr (.inl rfl), o3 := .inr (.inr (.inl rfl)), o4 := .inr (.inr (.inr (.inl rfl))), o5 := .inr (.inr (.inr (.inr (.inl rfl)))), o6 := .inr (.inr (.inr (.inr (.inr rfl)))), n12 := ne_of_none d1 n2, n13 := ne_of_none (k2 _ _ d1 p1) n3, n14 := ne_of_none (k3 _ _ (k2 _ _ d1 p1) p1) n4, n23 := ne_of_none d2 n3, n24 := ne_of_none (k3 _ _ d2 p2) n4, n34 := ne_of_none d3 n4 }
end
end K34
namespace K34
open PySem PySem.Spec L2

section
variable {P : Program} {w : World} {K : PySem.W.Frag} {mg : Str → Option Value} {base : Heap} {CH CW aK aA aG : Addr}
theorem behind_take {ps : List Page} {i : Nat} {p : Page} (h : ps[i]? = some p) : behind (ps.take (i + 1)) = (behind (ps.take i)).meet p := by
  unfold behind
  rw [List.take_add_one, h, List.foldl_append] <;> rfl
def upTo (ps : List Page) (d : Int) : List Page := ps.filter fun p => decide (p.day ≤ d)
def spBehind (CH : Addr) : Sp := fun vs H Q _ => ∃ v ps d, vs = [v, .int d] ∧ Fz H v (.tup (ps.map Page.key)) ∧ ps.length ≤ 800 ∧ ∀ H' p own n, Same H H' → (∀ a, own a → H a = none) → HousesAt CH H' p own (behind (upTo ps d)) n → Q (.ref p) H'
theorem sc_houses_behind : FnScope ["book", "day", "found", "page"] ["book", "day"] (defScope s_houses_behind) := ⟨rfl, rfl, rfl, by decide +kernel, rfl, by decide +kernel, by decide +kernel⟩
theorem ok_behind (T : Txt K mg CH CW aK aA aG) (D : Dat K mg "houses_behind" "houses_behind" s_houses_behind ["book", "day"]) (G_up_to : OK P w K mg base 3 "up_to" ["book", "day"] (fspR upToR)) (G_Houses : COK P w K mg base 1 CH "Houses" ["self"] (spHInit CH)) (M_meet : MOK P w K mg base 5 CH "meet" ["self", "page"] (spMeet CH)) :
    OK P w K mg base 7 "houses_behind" ["book", "day"] (spBehind CH) := by
  refine ok_mk D sc_houses_behind (fun vs H Q E h => ?_) (fun f cdv A outer s H vs Q E hr h => ?_)
  · obtain ⟨v, ps, d, rfl, _⟩ := h
    rfl
  · obtain ⟨v, ps, d, rfl, f1, hz, q⟩ := h
    have hu := hr.units
    have hu0 := hr.units0
    have hu1 : _ + 1 < cLine := Nat.lt_of_le_of_lt (Nat.add_le_add_left (by decide : 1 ≤ 64) _) hu
    refine ⟨_, (pss_cons (ps_set (i := 2) sc_houses_behind.nd rfl (Or.inl rfl) (px_make0 G_Houses (hr.mono (by decide)) (by rfl))) (pss_cons (ps_for PassesOwn.never rfl (pi_tup (px_call G_up_to (hr.mono (by decide)) (by rfl) (pa_cons (pv 0) (pa_cons (pv 1) pa_nil)))) (pg_name (i := 3) sc_houses_behind.nd rfl (Or.inl rfl)) (pss_one (ps_expr (px_meth T.clH M_meet (hr.mono (by decide)) (pv 2) (pa_cons (pv 3) pa_nil))))) (pss_one (ps_ret (pv 2))))), ?_⟩
    intro x dx nx ndx nex
    refine ⟨x, dx, rfl, upd_same, fun H1 own kp fr hh => ⟨rfl, ?_⟩⟩
    have s1 : Same H H1 := fun a o e => kp a o (by rw [upd_ne (ne_of_none e nx), upd_ne (ne_of_none e ndx)]; exact e) (ne_of_none e nx)
    have f0 : ∀ a, own a → H a = none := fun a h => (fr a h).elim (fun e => by rw [e]; exact nx) fun e => by
      by_cases h1 : a = x
      · rw [h1]; exact nx
      · rw [upd_ne h1] at e
        by_cases h2 : a = dx
        · rw [h2]; exact ndx
        · rw [upd_ne h2] at e; exact e
    refine q_forT (ks := (upTo ps d).map Page.key) (ef_callR (ea_cons (ef_var rfl (f1.sm s1)) (ea_cons (ef_of_int (ev_var rfl)) ea_nil)) ⟨ps, d, rfl, Nat.le_trans hz (by decide), rfl⟩) fun a xs H2 s2 hx fx => ?_
    refine ⟨fun i σ' H' => (∃ y, σ' = [some v, some (.int d), some (.ref x), y]) ∧ Same H H' ∧ TK H2 H' ∧ ∃ own, (∀ a, own a → H a = none) ∧ HousesAt CH H' x own (behind ((upTo ps d).take i)) i, ⟨⟨none, rfl⟩, s1.trans s2, .refl _, own, f0, hh.sm s2⟩, fun i σ' H' p => p.2.2.1, fun i j y σ' H' hj fj ⟨⟨z, hy⟩, s3, t3, own, f3, hh⟩ => ?_, fun σ' H' ⟨⟨z, hy⟩, s3, t3, own, f3, hh⟩ => ?_⟩
    · subst hy
      rw [List.getElem?_map] at hj
      obtain ⟨p, hp, rfl⟩ := Option.map_eq_some_iff.mp hj
      have hi : i < 900 := by
        have h1 := (List.getElem?_eq_some_iff.mp hp).1
        have h2 : (upTo ps d).length ≤ ps.length := List.length_filter_le _ _
        omega
      obtain ⟨dx', hA, pA, jA, mA, iA, kH, kP, kJ, kM, xs', c⟩ := id hh
      refine m_call (A := fun vs H2 => FzA H2 vs [p.key]) (ev_var rfl) c.o (hfs_meet _ _ _ _ _) (ea_cons (ef_var rfl fj) ea_nil) fun vs H4 s4 fa => ?_
      obtain ⟨u, rfl, fu⟩ := fa.one_inv
      refine ⟨x, own, _, i, u, p, rfl, hh.sm s4, fu, hi, fun H5 own' st hh' => ?_⟩
      have st := (Step.of_same (own := own) s4).trans st
      obtain ⟨b1, b2⟩ := st.base s3 f3
      refine ⟨⟨_, rfl⟩, b1, t3.trans st.tk, own', b2, ?_⟩
      rw [behind_take hp]
      exact hh'
    · subst hy
      rw [List.length_map, List.take_length] at hh
      exact ⟨_, rfl, q _ _ own _ s3 f3 hh⟩
def spHomeOf : Sp := fun vs H Q _ => ∃ v ps d x, vs = [v, .int d, .str x] ∧ Fz H v (.tup (ps.map Page.key)) ∧ ps.length ≤ 800 ∧ (aget (behind (upTo ps d)).homes x).isSome = true ∧ ∀ v' H', Same H H' → Q v' H'
theorem sc_home_of : FnScope ["book", "day", "name", "houses"] ["book", "day", "name"] (defScope s_home_of) := ⟨rfl, rfl, rfl, by decide +kernel, rfl, by decide +kernel, by decide +kernel⟩
theorem ok_home_of (T : Txt K mg CH CW aK aA aG) (D : Dat K mg "home_of" "home_of" s_home_of ["book", "day", "name"]) (G_houses_behind : OK P w K mg base 7 "houses_behind" ["book", "day"] (spBehind CH)) (M_ask_standing : MOK P w K mg base 1 CH "ask_standing" ["self", "name"] (spAsk CH)) :
    OK P w K mg base 9 "home_of" ["book", "day", "name"] spHomeOf := by
  refine ok_mk D sc_home_of (fun vs H Q E h => ?_) (fun f cdv A outer s H vs Q E hr h => ?_)
  · obtain ⟨v, ps, d, x, rfl, _⟩ := h
    rfl
  · obtain ⟨v, ps, d, x, rfl, f1, hz, hx, q⟩ := h
    have hu := hr.units
    have hu0 := hr.units0
    have hu1 : _ + 1 < cLine := Nat.lt_of_le_of_lt (Nat.add_le_add_left (by decide : 1 ≤ 64) _) hu
    refine ⟨_, (pss_cons (ps_set (i := 3) sc_home_of.nd rfl (Or.inl rfl) (px_call G_houses_behind (hr.mono (by decide)) (by rfl) (pa_cons (pv 0) (pa_cons (pv 1) pa_nil)))) (pss_cons (ps_expr (px_meth T.clH M_ask_standing (hr.mono (by decide)) (pv 3) (pa_cons (pv 2) pa_nil))) (pss_one (ps_ret (pe_dget hu1 (pe_fld (pv 3) (by rfl)) (pv 2) (fun _ _ => rfl)))))), ?_⟩
    refine ⟨_, rfl, _, rfl, v, ps, d, rfl, f1, hz, fun H1 p own n s1 f0 hh => ?_⟩
    obtain ⟨dx', hA, pA, jA, mA, iA, kH, kP, kJ, kM, xs', c⟩ := id hh
    refine m_call (A := fun vs H2 => vs = [.str x]) (ev_var rfl) c.o (hfs_ask _ _ _ _ _) (fun H2 s2 Q q => ⟨_, rfl, q _ H2 (Same.refl _) rfl⟩) fun vs H2 s2 e => ?_
    subst e
    refine ⟨p, own, _, n, x, rfl, hh.sm s2, hx, fun H3 s3 => ?_⟩
    have c3 := (c.sm s2).sm s3
    obtain ⟨h, e⟩ := Option.isSome_iff_exists.mp hx
    obtain ⟨v', hv', _⟩ := c3.rh.some kS_inj e
    exact s_ret (ev_dget (ev_fld (K := K) (ev_var (i := 3) rfl) c3.o T.clH (T.noH "homes" (by simp)) (hfs1 _ _ _ _ _)) (ev_var rfl) c3.dh hv') fun u H4 s4 _ => q u H4 (((s1.trans s2).trans s3).trans s4)
def spIdle (K : PySem.W.Frag) : Sp := fun vs H Q _ => ∃ v ps d, vs = [v, .int d] ∧ Fz H v (.tup (ps.map Page.key)) ∧ ps.length ≤ 800 ∧ ∀ v' H', Same H H' → LW H H' v' ((behind (upTo ps d)).idle.map Page.key) → Q v' H'
theorem sc_idle : FnScope ["book", "day"] ["book", "day"] (defScope s_idle) := ⟨rfl, rfl, rfl, by decide +kernel, rfl, by decide +kernel, by decide +kernel⟩
theorem ok_idle (T : Txt K mg CH CW aK aA aG) (D : Dat K mg "idle" "idle" s_idle ["book", "day"]) (G_houses_behind : OK P w K mg base 7 "houses_behind" ["book", "day"] (spBehind CH)) : OK P w K mg base 9 "idle" ["book", "day"] (spIdle K) := by
  refine ok_mk D sc_idle (fun vs H Q E h => ?_) (fun f cdv A outer s H vs Q E hr h => ?_)
  · obtain ⟨v, ps, d, rfl, _⟩ := h
    rfl
  · obtain ⟨v, ps, d, rfl, f1, hz, q⟩ := h
    refine ⟨_, (pss_one (ps_ret (pe_callTy call_list_of (by rfl) T.list b_list (pa_cons (pe_fld (px_call G_houses_behind (hr.mono (by decide)) (by rfl) (pa_cons (pv 0) (pa_cons (pv 1) pa_nil))) (by rfl)) pa_nil)))), ?_⟩
    refine ⟨_, rfl, _, rfl, v, ps, d, rfl, f1, hz, fun H1 p own n s1 f0 hh => ?_⟩
    obtain ⟨dx', hA, pA, jA, mA, iA, kH, kP, kJ, kM, xs', c⟩ := id hh
    exact ⟨p, CH, dx', _, _, rfl, c.o, T.clH, T.noH _ (by simp), hfs5 _ _ _ _ _, iA, _, rfl, .inl (sqL_of c.di), fun l hl => q _ _ (s1.trans (Same.new hl)) ⟨l, xs', rfl, s1.free hl, upd_same, c.ri.sm (Same.new hl)⟩⟩
end
end K34
namespace K34
open PySem PySem.Spec L2

/-! ### the walk, in plain Lean -/
structure Due where
  ower : Str
  owed : Str
  page : Page
  deriving DecidableEq
def Due.key (d : Due) : NestedKey := .tup [.text d.ower, .text d.owed, d.page.key]
theorem Due.key_inj : ∀ {a b : Due}, a.key = b.key → a = b := fun {a b} h => by
  obtain ⟨a1, a2, a3⟩ := a
  obtain ⟨b1, b2, b3⟩ := b
  injection h with h
  injection h with h1 h
  injection h with h2 h
  injection h with h3 h
  injection h1 with h1
  injection h2 with h2
  have h3 := Page.key_inj h3
  have h1 : a1 = b1 := h1
  have h2 : a2 = b2 := h2
  have h3 : a3 = b3 := h3
  rw [h1, h2, h3]
theorem Due.depth (d : Due) : d.key.depth ≤ 3 := by
  have := d.page.depth
  simp [Due.key, NestedKey.depthAll, NestedKey.depth]
  omega
def bS (b : Bool) : Str := if b then "visit" else "card"
theorem bS_inj : ∀ a b : Bool, bS a = bS b → a = b := by
  have : bS true ≠ bS false := by decide +kernel
  intro a b h
  cases a <;> cases b
  · rfl
  · exact absurd h.symm this
  · exact absurd h this
  · rfl
def staysB (one other : List Int) : Bool :=
  if one.length ≠ other.length then decide (other.length < one.length)
  else if one ≠ [] ∧ one.getLast? ≠ other.getLast? then decide (one.getLast?.getD 0 < other.getLast?.getD 0)
  else Ob.lexAt (fun j => decide (one.getD j 0 = other.getD j 0)) (fun j => decide (one.getD j 0 ≤ other.getD j 0)) (decide (one.length ≤ other.length)) 0 (min one.length other.length)
structure WS where
  homes : List (Str × List Int)
  mourned : List (Str × List (Int × Int))
  sorts : List (Page × Bool)
  falls : List (Due × List Int)
def mAns (n : Nat) : NestedKey := .tup [.text "answer", .num n]
def mDue : NestedKey := .tup [.text "due"]
def mDone : NestedKey := .tup [.text "done"]
def mIdle : NestedKey := .tup [.text "idle"]
def mournsB (m : List (Str × List (Int × Int))) (a : Str) (day : Int) : Bool := ((aget m a).getD []).any fun e => decide (e.1 ≤ day) && decide (day ≤ e.2)
namespace WS
def isMet (s : WS) (v : Bool) (d : Int) (a b : Str) : Bool :=
  if !v || !(decide (d % 7 ∈ (aget s.homes b).getD [])) then false else !mournsB s.mourned a d && !mournsB s.mourned b d
def paid (s : WS) (a b : Str) (sort : Bool) : List Due := (s.falls.map (·.1)).filter fun d => (decide (d.ower = a) && decide (d.owed = b)) && (sort || !((aget s.sorts d.page).getD false))
def go (s : WS) (v : Bool) (d : Int) (a b : Str) : WS × NestedKey :=
  if (s.paid a b (s.isMet v d a b)).isEmpty then ({ s with sorts := aput s.sorts (.going v d a b) (s.isMet v d a b), falls := aput s.falls ⟨b, a, .going v d a b⟩ [] }, mDue)
  else ({ s with falls := (s.paid a b (s.isMet v d a b)).foldl adrop s.falls }, mAns (s.paid a b (s.isMet v d a b)).length)
end WS
abbrev Falls := List (Due × List Int)
def partF (f : Falls) (name fresh : Str) : Falls := (f.map (·.1)).foldl (fun acc d => if d.ower = name then aput acc ⟨fresh, d.owed, d.page⟩ ((aget acc d).getD []) else acc) f
def layF (f : Falls) (d : Due) (l : List Int) : Falls :=
  match aget f d with
  | none => aput f d l
  | some there => if staysB there l then f else aput f d l
def ren (name gone x : Str) : Str := if x = gone then name else x
def joinStep (name gone : Str) (acc : Falls) (d : Due) : Falls :=
  if gone = d.ower ∨ gone = d.owed then
    if ren name gone d.ower = ren name gone d.owed then adrop acc d else layF (adrop acc d) ⟨ren name gone d.ower, ren name gone d.owed, d.page⟩ ((aget acc d).getD [])
  else acc
def joinF (f : Falls) (name gone : Str) : Falls := (f.map (·.1)).foldl (joinStep name gone) f
def termOf (t : Int × Int) (v : Bool) : Int := if v then t.1 else t.2
def fallIf (s : WS) (t : Int × Int) (day : Int) (e : Due × List Int) : Bool :=
  decide (0 < termOf t ((aget s.sorts e.1.page).getD false) - e.2.length) && (decide (e.1.page.day < day) && (!mournsB s.mourned e.1.ower day && !mournsB s.mourned e.1.owed day))
def fallE (s : WS) (t : Int × Int) (day : Int) (e : Due × List Int) : Due × List Int := (e.1, if fallIf s t day e then e.2 ++ [day] else e.2)
def WS.fall (s : WS) (t : Int × Int) (day : Int) : WS := { s with falls := s.falls.map (fallE s t day) }
def WS.put (s : WS) (lost : List Page) (p : Page) : WS × NestedKey :=
  if p ∈ lost then (s, mIdle) else
  match p with
  | .going v d a b => s.go v d a b
  | .part _ a b h => ({ s with falls := partF s.falls a b, homes := aput s.homes b h }, mDone)
  | .join _ a b => ({ s with falls := joinF s.falls a b }, mDone)
  | .house _ a h => ({ s with homes := aput s.homes a h }, mDone)
  | .home _ a h => ({ s with homes := aput s.homes a h }, mDone)
  | .mourn d a n => ({ s with mourned := aput s.mourned a ((aget s.mourned a).getD [] ++ [(d, d + n - 1)]) }, mDone)
  | .ahead _ _ _ => (s, mDone)

/-! ### what stands where -/
def wf (vB vT : V) (lA hA mA sA fA kA aA : Addr) (n1 n2 n3 n4 : Int) : List (Str × V) :=
  [("own_pages", vB), ("own_terms", vT), ("lost", .ref lA), ("homes", .ref hA), ("mourned", .ref mA), ("sorts", .ref sA), ("falls", .ref fA), ("marks", .ref kA), ("answers", .ref aA), ("made", .int n1), ("copied", .int n2), ("struck", .int n3), ("merged", .int n4)]
section
variable (vB vT : V) (lA hA mA sA fA kA aA : Addr) (n1 n2 n3 n4 i : Int)
theorem wf_book : (wf vB vT lA hA mA sA fA kA aA n1 n2 n3 n4).lookup ("own_pages" : Str) = some vB := rfl
theorem wf_terms : (wf vB vT lA hA mA sA fA kA aA n1 n2 n3 n4).lookup ("own_terms" : Str) = some vT := rfl
theorem wf_lost : (wf vB vT lA hA mA sA fA kA aA n1 n2 n3 n4).lookup ("lost" : Str) = some (.ref lA) := rfl
theorem wf_homes : (wf vB vT lA hA mA sA fA kA aA n1 n2 n3 n4).lookup ("homes" : Str) = some (.ref hA) := rfl
theorem wf_mourned : (wf vB vT lA hA mA sA fA kA aA n1 n2 n3 n4).lookup ("mourned" : Str) = some (.ref mA) := rfl
theorem wf_sorts : (wf vB vT lA hA mA sA fA kA aA n1 n2 n3 n4).lookup ("sorts" : Str) = some (.ref sA) := rfl
theorem wf_falls : (wf vB vT lA hA mA sA fA kA aA n1 n2 n3 n4).lookup ("falls" : Str) = some (.ref fA) := rfl
theorem wf_marks : (wf vB vT lA hA mA sA fA kA aA n1 n2 n3 n4).lookup ("marks" : Str) = some (.ref kA) := rfl
theorem wf_answers : (wf vB vT lA hA mA sA fA kA aA n1 n2 n3 n4).lookup ("answers" : Str) = some (.ref aA) := rfl
theorem wf_made : (wf vB vT lA hA mA sA fA kA aA n1 n2 n3 n4).lookup ("made" : Str) = some (.int n1) := rfl
theorem wf_copied : (wf vB vT lA hA mA sA fA kA aA n1 n2 n3 n4).lookup ("copied" : Str) = some (.int n2) := rfl
theorem wf_struck : (wf vB vT lA hA mA sA fA kA aA n1 n2 n3 n4).lookup ("struck" : Str) = some (.int n3) := rfl
theorem wf_merged : (wf vB vT lA hA mA sA fA kA aA n1 n2 n3 n4).lookup ("merged" : Str) = some (.int n4) := rfl
theorem wf_no (m : Str) (h : m ∈ (["mourns", "is_met", "go", "part", "join", "lay", "put", "fall", "go_to", "places", "dues_told"] : List Str)) : (wf vB vT lA hA mA sA fA kA aA n1 n2 n3 n4).lookup m = none := by
  simp only [List.mem_cons, List.not_mem_nil, or_false] at h
  rcases h with h | h | h | h | h | h | h | h | h | h | h <;> subst h <;> rfl
theorem wf_put1 : putF "made" (.int i) (wf vB vT lA hA mA sA fA kA aA n1 n2 n3 n4) = wf vB vT lA hA mA sA fA kA aA i n2 n3 n4 := rfl
theorem wf_put2 : putF "copied" (.int i) (wf vB vT lA hA mA sA fA kA aA n1 n2 n3 n4) = wf vB vT lA hA mA sA fA kA aA n1 i n3 n4 := rfl
theorem wf_put3 : putF "struck" (.int i) (wf vB vT lA hA mA sA fA kA aA n1 n2 n3 n4) = wf vB vT lA hA mA sA fA kA aA n1 n2 i n4 := rfl
theorem wf_put4 : putF "merged" (.int i) (wf vB vT lA hA mA sA fA kA aA n1 n2 n3 n4) = wf vB vT lA hA mA sA fA kA aA n1 n2 n3 i := rfl
end
def pairK (e : Int × Int) : NestedKey := .tup [.num e.1, .num e.2]
def markK (e : Page × NestedKey) : NestedKey := .tup [e.1.key, e.2]
/-- the list of a name's mournings -/
def MR (H : Hp) (own : Addr → Prop) (kA aA : Addr) : V → List (Int × Int) → Prop := fun v l => ∃ a xs, v = .ref a ∧ H a = some (.lst xs) ∧ FzA H xs (l.map pairK) ∧ own a ∧ a ≠ kA ∧ a ≠ aA
abbrev SortR : V → Bool → Prop := fun v b => v = .str (bS b)
abbrev FallR (H : Hp) : V → List Int → Prop := fun v l => Fz H v (.tup (ik l))
/-- where a Walk's parts lie -/
structure WA where
  p : Addr
  dx : Addr
  vB : V
  vT : V
  lA : Addr
  hA : Addr
  mA : Addr
  sA : Addr
  fA : Addr
  kA : Addr
  aA : Addr
/-- what it has been given -/
structure WG where
  book : List Page
  terms : Int × Int
structure WC (P : Program) (w : World) (CW : Addr) (H : Hp) (a : WA) (own : Addr → Prop) (g : WG) (lost : List Page) (s : WS) (marks : List (Page × NestedKey)) (n : Nat) : Prop where
  o : ∃ n1 n2 n3 n4, H a.p = some (.ins CW a.dx (wf a.vB a.vT a.lA a.hA a.mA a.sA a.fA a.kA a.aA n1 n2 n3 n4))
  fb : Fz H a.vB (.tup (g.book.map Page.key))
  ft : Fz H a.vT (.tup [.num g.terms.1, .num g.terms.2])
  dl : ∃ kv, DW P w H a.lA kv ∧ kv.map (·.1) = lost.map Page.key
  dh : ∃ kv, H a.hA = some (.dK kv) ∧ DR kS (HomeR H) kv s.homes
  dm : ∃ kv, H a.mA = some (.dK kv) ∧ DR kS (MR H own a.kA a.aA) kv s.mourned ∧ ∀ x y b, valV kv (kS x) = some (.ref b) → valV kv (kS y) = some (.ref b) → x = y
  ds : ∃ kv, DW P w H a.sA kv ∧ DR Page.key SortR kv s.sorts
  df : ∃ kv, DW P w H a.fA kv ∧ DR Due.key (FallR H) kv s.falls
  dk : ∃ xs, H a.kA = some (.lst xs) ∧ FzA H xs (marks.map markK)
  da : ∃ xs, H a.aA = some (.lst xs) ∧ xs.length ≤ n
  nm : (s.mourned.map (·.1)).Nodup
  zh : s.homes.length ≤ n
  zm : s.mourned.length ≤ n
  zl : ∀ x l, aget s.mourned x = some l → l.length ≤ n
  zs : s.sorts.length ≤ n
  zk : marks.length ≤ n
  ow : ∀ b ∈ [a.p, a.lA, a.hA, a.mA, a.sA, a.fA, a.kA, a.aA], own b
  ol : ∀ b, own b → H b ≠ none
  nhm : a.hA ≠ a.mA
  nls : a.lA ≠ a.sA
  nlf : a.lA ≠ a.fA
  nsf : a.sA ≠ a.fA
  nka : a.kA ≠ a.aA
section
variable {P : Program} {w : World} {CW : Addr} {H H' : Hp} {a : WA} {own : Addr → Prop} {g : WG} {lost : List Page} {s : WS} {marks : List (Page × NestedKey)} {n : Nat}
theorem MR.sm {kA aA : Addr} {v : V} {l : List (Int × Int)} (h : MR H own kA aA v l) (e : Same H H') : MR H' own kA aA v l := let ⟨b, xs, h1, h2, h3, h4⟩ := h; ⟨b, xs, h1, e _ _ h2, h3.sm e, h4⟩
theorem WC.sm (c : WC P w CW H a own g lost s marks n) (e : Same H H') : WC P w CW H' a own g lost s marks n :=
  { c with ol := fun b h z => c.ol b h (e.free z), o := let ⟨n1, n2, n3, n4, h⟩ := c.o; ⟨n1, n2, n3, n4, e _ _ h⟩, fb := c.fb.sm e, ft := c.ft.sm e, dl := let ⟨k, h1, h2⟩ := c.dl; ⟨k, h1.sm e, h2⟩, dh := let ⟨k, h1, h2⟩ := c.dh; ⟨k, e _ _ h1, h2.tk (.of_same e)⟩, dm := let ⟨k, h1, h2, h3⟩ := c.dm; ⟨k, e _ _ h1, h2.imp fun _ _ q => q.sm e, h3⟩, ds := let ⟨k, h1, h2⟩ := c.ds; ⟨k, h1.sm e, h2⟩, df := let ⟨k, h1, h2⟩ := c.df; ⟨k, h1.sm e, h2.imp fun _ _ q => q.sm e⟩, dk := let ⟨k, h1, h2⟩ := c.dk; ⟨k, e _ _ h1, h2.sm e⟩, da := let ⟨k, h1, h2⟩ := c.da; ⟨k, e _ _ h1, h2⟩ }
theorem WC.mono (c : WC P w CW H a own g lost s marks n) {m : Nat} (h : n ≤ m) : WC P w CW H a own g lost s marks m :=
  { c with da := let ⟨k, h1, h2⟩ := c.da; ⟨k, h1, Nat.le_trans h2 h⟩, zh := Nat.le_trans c.zh h, zm := Nat.le_trans c.zm h, zl := fun x l e => Nat.le_trans (c.zl x l e) h, zs := Nat.le_trans c.zs h, zk := Nat.le_trans c.zk h }
/-- the kinds of things that stand at the addresses -/
def WC.kd (c : WC P w CW H a own g lost s marks n) : (∃ fs, H a.p = some (.ins CW a.dx fs)) ∧ (∃ k, H a.hA = some (.dK k)) ∧ (∃ k, H a.mA = some (.dK k)) ∧ (∃ f, H a.lA = some (.ext f)) ∧ (∃ f, H a.sA = some (.ext f)) ∧ (∃ f, H a.fA = some (.ext f)) ∧ (∃ k, H a.kA = some (.lst k)) ∧ ∃ k, H a.aA = some (.lst k) :=
  ⟨let ⟨_, _, _, _, h⟩ := c.o; ⟨_, h⟩, let ⟨k, h, _⟩ := c.dh; ⟨k, h⟩, let ⟨k, h, _⟩ := c.dm; ⟨k, h⟩, let ⟨_, h, _⟩ := c.dl; h.ho, let ⟨_, h, _⟩ := c.ds; h.ho, let ⟨_, h, _⟩ := c.df; h.ho, let ⟨k, h, _⟩ := c.dk; ⟨k, h⟩, let ⟨k, h, _⟩ := c.da; ⟨k, h⟩⟩
/-- all but one thing stays: x is no list of mournings -/
theorem WC.rest {x : Addr} (c : WC P w CW H a own g lost s marks n) (ne : ∀ b, b ≠ x → H' b = H b) (tk : TK H H') (nm : ∀ v l, MR H own a.kA a.aA v l → v ≠ .ref x) :
    Fz H' a.vB (.tup (g.book.map Page.key)) ∧ Fz H' a.vT (.tup [.num g.terms.1, .num g.terms.2]) ∧ (a.p ≠ x → ∃ n1 n2 n3 n4, H' a.p = some (.ins CW a.dx (wf a.vB a.vT a.lA a.hA a.mA a.sA a.fA a.kA a.aA n1 n2 n3 n4))) ∧
    (a.lA ≠ x → ∃ kv, DW P w H' a.lA kv ∧ kv.map (·.1) = lost.map Page.key) ∧ (a.hA ≠ x → ∃ kv, H' a.hA = some (.dK kv) ∧ DR kS (HomeR H') kv s.homes) ∧
    (a.mA ≠ x → ∃ kv, H' a.mA = some (.dK kv) ∧ DR kS (MR H' own a.kA a.aA) kv s.mourned ∧ ∀ x y b, valV kv (kS x) = some (.ref b) → valV kv (kS y) = some (.ref b) → x = y) ∧
    (a.sA ≠ x → ∃ kv, DW P w H' a.sA kv ∧ DR Page.key SortR kv s.sorts) ∧ (a.fA ≠ x → ∃ kv, DW P w H' a.fA kv ∧ DR Due.key (FallR H') kv s.falls) ∧
    (a.kA ≠ x → ∃ xs, H' a.kA = some (.lst xs) ∧ FzA H' xs (marks.map markK)) ∧ (a.aA ≠ x → ∃ xs, H' a.aA = some (.lst xs) ∧ xs.length ≤ n) := by
  refine ⟨c.fb.tk tk, c.ft.tk tk, fun h => ?_, fun h => ?_, fun h => ?_, fun h => ?_, fun h => ?_, fun h => ?_, fun h => ?_, fun h => ?_⟩
  · obtain ⟨n1, n2, n3, n4, e⟩ := c.o
    exact ⟨n1, n2, n3, n4, by rw [ne _ h]; exact e⟩
  · obtain ⟨k, h1, h2⟩ := c.dl
    exact ⟨k, h1.keep (ne _ h) tk, h2⟩
  · obtain ⟨k, h1, h2⟩ := c.dh
    exact ⟨k, by rw [ne _ h]; exact h1, h2.tk tk⟩
  · obtain ⟨k, h1, h2, h3⟩ := c.dm
    refine ⟨k, by rw [ne _ h]; exact h1, h2.imp fun v l q => ?_, h3⟩
    have nx := nm v l q
    obtain ⟨b, xs, e, h5, h6, h7⟩ := q
    exact ⟨b, xs, e, by rw [ne b fun z => nx (by rw [e, z])]; exact h5, h6.tk tk, h7⟩
  · obtain ⟨k, h1, h2⟩ := c.ds
    exact ⟨k, h1.keep (ne _ h) tk, h2⟩
  · obtain ⟨k, h1, h2⟩ := c.df
    exact ⟨k, h1.keep (ne _ h) tk, h2.imp fun _ _ q => q.tk tk⟩
  · obtain ⟨k, h1, h2⟩ := c.dk
    exact ⟨k, by rw [ne _ h]; exact h1, h2.tk tk⟩
  · obtain ⟨k, h1, h2⟩ := c.da
    exact ⟨k, by rw [ne _ h]; exact h1, h2⟩
theorem mr_ne {x : Addr} {o : HO} {kA aA : Addr} (e : H x = some o) (h : ∀ k, o ≠ .lst k) : ∀ v l, MR H own kA aA v l → v ≠ .ref x := fun v l q z => by
  obtain ⟨b, xs, e2, h5, _⟩ := q
  rw [e2] at z
  cases z
  rw [e] at h5
  cases h5
  exact h _ rfl
/-- the dict of falls changes -/
theorem WC.setF (c : WC P w CW H a own g lost s marks n) {kv : List (NestedKey × V)} {l : Falls} (d : DW P w H' a.fA kv) (ne : ∀ b, b ≠ a.fA → H' b = H b) (r : DR Due.key (FallR H) kv l) : WC P w CW H' a own g lost { s with falls := l } marks n ∧ Step own H own H' := by
  obtain ⟨⟨f1, k1⟩, ⟨f2, k2⟩, ⟨f3, k3⟩, ⟨f4, k4⟩, ⟨f5, k5⟩, ⟨f6, k6⟩, ⟨f7, k7⟩, ⟨f8, k8⟩⟩ := c.kd
  obtain ⟨kv0, d0, _⟩ := c.df
  have tk := tk_dw d0 ne
  obtain ⟨e1, e2, e3, e4, e5, e6, e7, e8, e9, e10⟩ := c.rest ne tk (mr_ne k6 (fun k z => by cases z))
  have st : Step own H own H' := Step.at (c.ow _ (by simp)) d0 d ne
  exact ⟨{ c with ol := fun b h z => c.ol b h (st.live b z), o := e3 (ne_of k1 k6 (fun z => by cases z)), fb := e1, ft := e2, dl := e4 c.nlf, dh := e5 (ne_of k2 k6 (fun z => by cases z)), dm := e6 (ne_of k3 k6 (fun z => by cases z)), ds := e7 c.nsf, df := ⟨kv, d, r.imp fun _ _ q => q.tk tk⟩, dk := e9 (ne_of k7 k6 (fun z => by cases z)), da := e10 (ne_of k8 k6 (fun z => by cases z)) }, st⟩
theorem WC.setS (c : WC P w CW H a own g lost s marks n) {kv : List (NestedKey × V)} {l : List (Page × Bool)} (d : DW P w H' a.sA kv) (ne : ∀ b, b ≠ a.sA → H' b = H b) (r : DR Page.key SortR kv l) (hz : l.length ≤ n) : WC P w CW H' a own g lost { s with sorts := l } marks n ∧ Step own H own H' := by
  obtain ⟨⟨f1, k1⟩, ⟨f2, k2⟩, ⟨f3, k3⟩, ⟨f4, k4⟩, ⟨f5, k5⟩, ⟨f6, k6⟩, ⟨f7, k7⟩, ⟨f8, k8⟩⟩ := c.kd
  obtain ⟨kv0, d0, _⟩ := c.ds
  have tk := tk_dw d0 ne
  obtain ⟨e1, e2, e3, e4, e5, e6, e7, e8, e9, e10⟩ := c.rest ne tk (mr_ne k5 (fun k z => by cases z))
  have st : Step own H own H' := Step.at (c.ow _ (by simp)) d0 d ne
  exact ⟨{ c with ol := fun b h z => c.ol b h (st.live b z), o := e3 (ne_of k1 k5 (fun z => by cases z)), fb := e1, ft := e2, dl := e4 c.nls, dh := e5 (ne_of k2 k5 (fun z => by cases z)), dm := e6 (ne_of k3 k5 (fun z => by cases z)), ds := ⟨kv, d, r⟩, df := e8 c.nsf.symm, dk := e9 (ne_of k7 k5 (fun z => by cases z)), da := e10 (ne_of k8 k5 (fun z => by cases z)), zs := hz }, st⟩
theorem WC.setLost (c : WC P w CW H a own g lost s marks n) {kv : List (NestedKey × V)} {l : List Page} (d : DW P w H' a.lA kv) (ne : ∀ b, b ≠ a.lA → H' b = H b) (r : kv.map (·.1) = l.map Page.key) : WC P w CW H' a own g l s marks n ∧ Step own H own H' := by
  obtain ⟨⟨f1, k1⟩, ⟨f2, k2⟩, ⟨f3, k3⟩, ⟨f4, k4⟩, ⟨f5, k5⟩, ⟨f6, k6⟩, ⟨f7, k7⟩, ⟨f8, k8⟩⟩ := c.kd
  obtain ⟨kv0, d0, _⟩ := c.dl
  have tk := tk_dw d0 ne
  obtain ⟨e1, e2, e3, e4, e5, e6, e7, e8, e9, e10⟩ := c.rest ne tk (mr_ne k4 (fun k z => by cases z))
  have st : Step own H own H' := Step.at (c.ow _ (by simp)) d0 d ne
  exact ⟨{ c with ol := fun b h z => c.ol b h (st.live b z), o := e3 (ne_of k1 k4 (fun z => by cases z)), fb := e1, ft := e2, dl := ⟨kv, d, r⟩, dh := e5 (ne_of k2 k4 (fun z => by cases z)), dm := e6 (ne_of k3 k4 (fun z => by cases z)), ds := e7 c.nls.symm, df := e8 c.nlf.symm, dk := e9 (ne_of k7 k4 (fun z => by cases z)), da := e10 (ne_of k8 k4 (fun z => by cases z)) }, st⟩
theorem WC.setHo (c : WC P w CW H a own g lost s marks n) {kv : List (Key × V)} {l : List (Str × List Int)} (r : DR kS (HomeR H) kv l) (hz : l.length ≤ n) : WC P w CW (upd H a.hA (.dK kv)) a own g lost { s with homes := l } marks n ∧ Step own H own (upd H a.hA (.dK kv)) := by
  obtain ⟨⟨f1, k1⟩, ⟨f2, k2⟩, ⟨f3, k3⟩, ⟨f4, k4⟩, ⟨f5, k5⟩, ⟨f6, k6⟩, ⟨f7, k7⟩, ⟨f8, k8⟩⟩ := c.kd
  have st : Step own H own (upd H a.hA (.dK kv)) := Step.upd (c.ow _ (by simp)) k2 (fun _ z => by cases z)
  obtain ⟨e1, e2, e3, e4, e5, e6, e7, e8, e9, e10⟩ := c.rest (fun b h => upd_ne h) st.tk (mr_ne k2 (fun k z => by cases z))
  exact ⟨{ c with ol := fun b h z => c.ol b h (st.live b z), o := e3 (ne_of k1 k2 (fun z => by cases z)), fb := e1, ft := e2, dl := e4 (ne_of k4 k2 (fun z => by cases z)), dh := ⟨kv, upd_same, r.tk st.tk⟩, dm := e6 c.nhm.symm, ds := e7 (ne_of k5 k2 (fun z => by cases z)), df := e8 (ne_of k6 k2 (fun z => by cases z)), dk := e9 (ne_of k7 k2 (fun z => by cases z)), da := e10 (ne_of k8 k2 (fun z => by cases z)), zh := hz }, st⟩
theorem WC.setK (c : WC P w CW H a own g lost s marks n) {xs : List V} {l : List (Page × NestedKey)} (r : FzA H xs (l.map markK)) (hz : l.length ≤ n) : WC P w CW (upd H a.kA (.lst xs)) a own g lost s l n ∧ Step own H own (upd H a.kA (.lst xs)) := by
  obtain ⟨⟨f1, k1⟩, ⟨f2, k2⟩, ⟨f3, k3⟩, ⟨f4, k4⟩, ⟨f5, k5⟩, ⟨f6, k6⟩, ⟨f7, k7⟩, ⟨f8, k8⟩⟩ := c.kd
  have st : Step own H own (upd H a.kA (.lst xs)) := Step.upd (c.ow _ (by simp)) k7 (fun _ z => by cases z)
  obtain ⟨e1, e2, e3, e4, e5, e6, e7, e8, e9, e10⟩ := c.rest (fun b h => upd_ne h) st.tk (fun v l q z => by obtain ⟨b, _, e, _, _, _, h, _⟩ := q; rw [e] at z; cases z; exact h rfl)
  exact ⟨{ c with ol := fun b h z => c.ol b h (st.live b z), o := e3 (ne_of k1 k7 (fun z => by cases z)), fb := e1, ft := e2, dl := e4 (ne_of k4 k7 (fun z => by cases z)), dh := e5 (ne_of k2 k7 (fun z => by cases z)), dm := e6 (ne_of k3 k7 (fun z => by cases z)), ds := e7 (ne_of k5 k7 (fun z => by cases z)), df := e8 (ne_of k6 k7 (fun z => by cases z)), dk := ⟨xs, upd_same, r.tk st.tk⟩, da := e10 c.nka.symm, zk := hz }, st⟩
theorem WC.setA (c : WC P w CW H a own g lost s marks n) {xs : List V} (hz : xs.length ≤ n) : WC P w CW (upd H a.aA (.lst xs)) a own g lost s marks n ∧ Step own H own (upd H a.aA (.lst xs)) := by
  obtain ⟨⟨f1, k1⟩, ⟨f2, k2⟩, ⟨f3, k3⟩, ⟨f4, k4⟩, ⟨f5, k5⟩, ⟨f6, k6⟩, ⟨f7, k7⟩, ⟨f8, k8⟩⟩ := c.kd
  have st : Step own H own (upd H a.aA (.lst xs)) := Step.upd (c.ow _ (by simp)) k8 (fun _ z => by cases z)
  obtain ⟨e1, e2, e3, e4, e5, e6, e7, e8, e9, e10⟩ := c.rest (fun b h => upd_ne h) st.tk (fun v l q z => by obtain ⟨b, _, e, _, _, _, _, h⟩ := q; rw [e] at z; cases z; exact h rfl)
  exact ⟨{ c with ol := fun b h z => c.ol b h (st.live b z), o := e3 (ne_of k1 k8 (fun z => by cases z)), fb := e1, ft := e2, dl := e4 (ne_of k4 k8 (fun z => by cases z)), dh := e5 (ne_of k2 k8 (fun z => by cases z)), dm := e6 (ne_of k3 k8 (fun z => by cases z)), ds := e7 (ne_of k5 k8 (fun z => by cases z)), df := e8 (ne_of k6 k8 (fun z => by cases z)), dk := e9 c.nka, da := ⟨xs, upd_same, hz⟩ }, st⟩
/-- a counter changes -/
theorem WC.setN (c : WC P w CW H a own g lost s marks n) {m1 m2 m3 m4 : Int} : WC P w CW (upd H a.p (.ins CW a.dx (wf a.vB a.vT a.lA a.hA a.mA a.sA a.fA a.kA a.aA m1 m2 m3 m4))) a own g lost s marks n ∧ Step own H own (upd H a.p (.ins CW a.dx (wf a.vB a.vT a.lA a.hA a.mA a.sA a.fA a.kA a.aA m1 m2 m3 m4))) := by
  obtain ⟨⟨f1, k1⟩, ⟨f2, k2⟩, ⟨f3, k3⟩, ⟨f4, k4⟩, ⟨f5, k5⟩, ⟨f6, k6⟩, ⟨f7, k7⟩, ⟨f8, k8⟩⟩ := c.kd
  have st : Step own H own (upd H a.p (.ins CW a.dx (wf a.vB a.vT a.lA a.hA a.mA a.sA a.fA a.kA a.aA m1 m2 m3 m4))) := Step.upd (c.ow _ (by simp)) k1 (fun _ z => by cases z)
  obtain ⟨e1, e2, e3, e4, e5, e6, e7, e8, e9, e10⟩ := c.rest (fun b h => upd_ne h) st.tk (mr_ne k1 (fun k z => by cases z))
  exact ⟨{ c with ol := fun b h z => c.ol b h (st.live b z), o := ⟨m1, m2, m3, m4, upd_same⟩, fb := e1, ft := e2, dl := e4 (ne_of k4 k1 (fun z => by cases z)), dh := e5 (ne_of k2 k1 (fun z => by cases z)), dm := e6 (ne_of k3 k1 (fun z => by cases z)), ds := e7 (ne_of k5 k1 (fun z => by cases z)), df := e8 (ne_of k6 k1 (fun z => by cases z)), dk := e9 (ne_of k7 k1 (fun z => by cases z)), da := e10 (ne_of k8 k1 (fun z => by cases z)) }, st⟩
end
end K34
namespace K34
open PySem PySem.Spec L2

section
variable {K : PySem.W.Frag} {σ : St} {H : Hp} {ta tb tc : TE} {D : Ends} {tz : TS} {v : V}
theorem ev_un {g : Int → Int} {i : Int} (h : EvV ta σ H (.int i)) : EvV (tUn (rU fun i => .int (g i)) ta) σ H (.int (g i)) := fun H1 s Q q => h H1 s _ fun v H2 s2 e => ⟨i, e, q _ H2 s2 rfl⟩
theorem ev_m1 : EvV (tUn (rU fun i => .int (-i)) (tC (.int 1))) σ H (.int (-1)) := ev_un (g := fun i => -i) ev_c
theorem ev_chainLe {a b c : Int} (h1 : EvV ta σ H (.int a)) (h2 : EvV tb σ H (.int b)) (h3 : EvV tc σ H (.int c)) : EvV (tChain (rI0 fun i j => .bl (decide (i ≤ j))) (rI0 fun i j => .bl (decide (i ≤ j))) ta tb tc) σ H (.bl (decide (a ≤ b) && decide (b ≤ c))) := fun H1 s Q q =>
  h1 H1 s _ fun x H2 s2 e1 => h2 H2 (s.trans s2) _ fun y H3 s3 e2 => by
    subst e1 e2
    refine ⟨a, b, rfl, rfl, decide (a ≤ b), rfl, ?_⟩
    by_cases h : a ≤ b
    · rw [if_pos (by simp [h])]
      refine h3 H3 ((s.trans s2).trans s3) _ fun z H4 s4 e3 => ⟨b, c, rfl, e3, q _ H4 ((s2.trans s3).trans s4) (by simp [h])⟩
    · rw [if_neg (by simp [h])]
      exact q _ H3 (s2.trans s3) (by simp [h])
theorem atI_last {α : Type} {ks : List α} {k : α} (h : ks.getLast? = some k) : L2.atI ks (-1) = some k := by
  have hn : ks ≠ [] := fun z => by rw [z] at h; cases h
  have hl : 0 < ks.length := List.length_pos_iff.mpr hn
  unfold L2.atI ixN
  rw [if_neg (by omega), if_pos (by omega)]
  rw [List.getLast?_eq_getElem?] at h
  have e : (-1 + (ks.length : Int)).toNat = ks.length - 1 := by omega
  show ks[(-1 + (ks.length : Int)).toNat]? = some k
  rw [e]
  exact h
theorem ik_last {l : List Int} {x : Int} (h : l.getLast? = some x) : (ik l).getLast? = some (.num x) := by
  unfold ik
  rw [List.getLast?_map, h] <;> rfl
theorem ev_leT {l m : List Int} (h1 : EvF ta σ H (.tup (ik l))) (h2 : EvF tb σ H (.tup (ik m))) : EvV (tOp (rLeT K) ta tb) σ H (.bl (Ob.lexAt (fun j => decide (l.getD j 0 = m.getD j 0)) (fun j => decide (l.getD j 0 ≤ m.getD j 0)) (decide (l.length ≤ m.length)) 0 (min l.length m.length))) := fun H1 s Q q =>
  h1 H1 s _ fun x H2 s2 f1 => h2 H2 (s.trans s2) _ fun y H3 s3 f2 => by
    obtain ⟨a, xs, rfl, hx, g1⟩ := (f1.sm s3).tup_inv
    obtain ⟨b, ys, rfl, hy, g2⟩ := f2.tup_inv
    have e1 := g1.ints
    have e2 := g2.ints
    subst e1 e2
    exact ⟨a, b, l, m, rfl, rfl, sqT_of hx, sqT_of hy, q _ H3 (s2.trans s3) rfl⟩
theorem inV_ints (i : Int) (l : List Int) : inV (.int i) (l.map V.int) = decide (i ∈ l) := by
  unfold inV
  induction l with
  | nil => rfl
  | cons a l ih =>
    rw [List.map_cons, List.any_cons, ih]
    by_cases h : a = i
    · simp [eqV, h]
    · have h' : ¬ i = a := fun z => h z.symm
      have e : (a == i) = false := by simpa using h
      simp [eqV, e, h']
theorem ev_notInI {i : Int} {l : List Int} (h1 : EvV ta σ H (.int i)) (h2 : EvF tb σ H (.tup (ik l))) : EvV (tOp (rIn K true) ta tb) σ H (.bl (!decide (i ∈ l))) := fun H1 s Q q =>
  h1 H1 s _ fun x H2 s2 e => h2 H2 (s.trans s2) _ fun y H3 s3 f2 => by
    subst e
    obtain ⟨b, ys, rfl, hy, g2⟩ := f2.tup_inv
    have e2 := g2.ints
    subst e2
    refine ⟨b, _, rfl, .inr (sqT_of hy), rfl, ?_, ?_⟩
    · simp [flatV]
    · show Q (.bl (if true = true then !inV (.int i) (l.map V.int) else _)) H3
      rw [if_pos rfl, inV_ints]
      exact q _ H3 (s2.trans s3) rfl
theorem FzA.map_paired {ι : Type} {f : ι → NestedKey} {H : Hp} : ∀ {xs : List V} {l : List ι}, FzA H xs (l.map f) → Paired (fun v e => Fz H v (f e)) xs l
  | [], [], _ => .nil
  | [], _ :: _, h => by cases h
  | _ :: _, [], h => by cases h
  | _ :: _, _ :: _, h => by
    cases h with
    | cons a r => exact .cons a (FzA.map_paired r)
theorem q_unp4 {i j1 j2 j3 j4 : Nat} {k1 k2 k3 k4 : NestedKey} (hi : σ[i]? = some (some v)) (f : Fz H v (.tup [k1, k2, k3, k4])) (k : ∀ v1 v2 v3 v4, Fz H v1 k1 → Fz H v2 k2 → Fz H v3 k3 → Fz H v4 k4 → tz D ((((σ.set j1 (some v1)).set j2 (some v2)).set j3 (some v3)).set j4 (some v4)) H) :
    tSeq (tAsg (tVar i) (gTup K 4 (gCons (gName j1) (gCons (gName j2) (gCons (gName j3) (gCons (gName j4) gNil)))))) tz D σ H := by
  obtain ⟨a, xs, rfl, hx, g⟩ := f.tup_inv
  obtain ⟨v1, v2, v3, v4, rfl, f1, f2, f3, f4⟩ := g.four_inv
  exact ⟨_, hi, a, _, rfl, sqT_of hx, rfl, v1, _, rfl, v2, _, rfl, v3, _, rfl, v4, _, rfl, rfl, k v1 v2 v3 v4 f1 f2 f3 f4⟩
end
section
variable {P : Program} {w : World} {K : PySem.W.Frag} {mg : Str → Option Value} {base : Heap} {CH CW aK aA aG : Addr}
def spStays : Sp := fun vs H Q _ => ∃ l m, FzA H vs [.tup (ik l), .tup (ik m)] ∧ ∀ H', Same H H' → Q (.bl (staysB l m)) H'
theorem ik_len (l : List Int) : (ik l).length = l.length := List.length_map _
theorem ik_depth2 (l : List Int) : (NestedKey.tup (ik l)).depth ≤ 8 := by
  simp [NestedKey.depth, ik_depth]
theorem ik_nil {l : List Int} : ik l = [] ↔ l = [] := List.map_eq_nil_iff
theorem sc_stays : FnScope ["one", "other"] ["one", "other"] (defScope s_stays) := ⟨rfl, rfl, rfl, by decide +kernel, rfl, by decide +kernel, by decide +kernel⟩
theorem ok_stays (T : Txt K mg CH CW aK aA aG) (D : Dat K mg "stays" "stays" s_stays ["one", "other"]) : OK P w K mg base 2 "stays" ["one", "other"] spStays := by
  refine ok_mk D sc_stays (fun vs H Q E h => ?_) (fun f cdv A outer s H vs Q E hr h => ?_)
  · obtain ⟨l, m, f, _⟩ := h
    exact f.length
  · obtain ⟨l, m, f, q⟩ := h
    obtain ⟨v, u, rfl, f1, f2⟩ := f.two_inv
    have hu := hr.units
    have hu0 := hr.units0
    have hu1 : _ + 1 < cLine := Nat.lt_of_le_of_lt (Nat.add_le_add_left (by decide : 1 ≤ 64) _) hu
    refine ⟨_, (pss_cons (ps_if (pt_cmpR op_ne (pe_callB call_lenK (by rfl) T.len b_len (pa_cons (pv 0) pa_nil)) (pe_callB call_lenK (by rfl) T.len b_len (pa_cons (pv 1) pa_nil)) (nomark _)) (pss_one (ps_ret (pe_cmpR op_gt (pe_callB call_lenK (by rfl) T.len b_len (pa_cons (pv 0) pa_nil)) (pe_callB call_lenK (by rfl) T.len b_len (pa_cons (pv 1) pa_nil)) (nomark _)))) pss_nil) (pss_cons (ps_if (pw_and (pt_cmpR (op_neT hu) (pv 0) (pe_tup pa_nil) (nomark _)) (pw_and1 (pt_cmpR op_ne (pe_ix ix_tup (pv 0) (pe_un un_neg pe_int) (fun _ _ => rfl)) (pe_ix ix_tup (pv 1) (pe_un un_neg pe_int) (fun _ _ => rfl)) (nomark _)))).pt (pss_one (ps_ret (pe_cmpR op_lt (pe_ix ix_tup (pv 0) (pe_un un_neg pe_int) (fun _ _ => rfl)) (pe_ix ix_tup (pv 1) (pe_un un_neg pe_int) (fun _ _ => rfl)) (nomark _)))) pss_nil) (pss_one (ps_ret (pe_cmpR (op_leT hu0) (pv 0) (pv 1) (nomark _)))))), ?_⟩
    have l1 : ∀ {H1 : Hp}, Same H H1 → EvV (tCB (rLenK K) (tCons (tVar 0) tNil)) [some v, some u] H1 (.int (l.length : Int)) := fun s1 => by
      have g := ev_lenT (K := K) (σ := [some v, some u]) (ef_var (i := 0) rfl (f1.sm s1))
      rw [ik_len] at g
      exact g
    have l2 : ∀ {H1 : Hp}, Same H H1 → EvV (tCB (rLenK K) (tCons (tVar 1) tNil)) [some v, some u] H1 (.int (m.length : Int)) := fun s1 => by
      have g := ev_lenT (K := K) (σ := [some v, some u]) (ef_var (i := 1) rfl (f2.sm s1))
      rw [ik_len] at g
      exact g
    refine seqi (s_if (et_test (ev_neI (l1 (.refl _)) (l2 (.refl _)))) (fun hb H1 s1 => ?_) (fun hb H1 s1 => ?_))
    · refine s_ret (ev_I0 (g := fun i j => .bl (decide (j < i))) (l1 s1) (l2 s1)) fun x H2 s2 e => ?_
      subst e
      have g := q H2 (s1.trans s2)
      have hn : l.length ≠ m.length := by
        simp at hb
        omega
      rw [staysB, if_pos hn] at g
      have e : decide ((m.length : Int) < l.length) = decide (m.length < l.length) := by simp
      show Q (.bl (decide ((m.length : Int) < l.length))) H2
      rw [e]
      exact g
    · have hl : l.length = m.length := by
        simp at hb
        omega
      by_cases h0 : l = []
      · have hm : m = [] := by
          rw [h0] at hl
          exact List.length_eq_zero_iff.mp hl.symm
        refine seqi (s_if (b := false) ((et_and (a := false) (b := false) ((et_test (ev_neT (ef_var rfl (f1.sm s1)) (ef_tup (ks := []) ea_nil) (ik_depth2 l))).of (by simp [ik_nil, h0])) (fun e => by cases e)).of rfl) (fun e => by cases e) (fun _ H2 s2 => ?_))
        refine s_ret (ev_leT (ef_var rfl ((f1.sm s1).sm s2)) (ef_var rfl ((f2.sm s1).sm s2))) fun x H3 s3 e => ?_
        subst e
        have g := q H3 ((s1.trans s2).trans s3)
        rw [staysB, if_neg (by simp [hl]), if_neg (by simp [h0])] at g
        exact g
      · have hm : m ≠ [] := fun z => h0 (by rw [z] at hl; exact List.length_eq_zero_iff.mp hl)
        obtain ⟨x, hx⟩ := Option.isSome_iff_exists.mp (by rw [List.getLast?_isSome]; exact h0 : l.getLast?.isSome = true)
        obtain ⟨y, hy⟩ := Option.isSome_iff_exists.mp (by rw [List.getLast?_isSome]; exact hm : m.getLast?.isSome = true)
        have g1 : ∀ {H2 : Hp}, Same H H2 → EvV (tOp (rIxT K) (tVar 0) (tUn (rU fun i => .int (-i)) (tC (.int 1)))) [some v, some u] H2 (.int x) := fun s2 => ev_of_int (ef_ix (ef_var rfl (f1.sm s2)) ev_m1 (atI_last (ik_last hx)))
        have g2 : ∀ {H2 : Hp}, Same H H2 → EvV (tOp (rIxT K) (tVar 1) (tUn (rU fun i => .int (-i)) (tC (.int 1)))) [some v, some u] H2 (.int y) := fun s2 => ev_of_int (ef_ix (ef_var rfl (f2.sm s2)) ev_m1 (atI_last (ik_last hy)))
        refine seqi (s_if (et_and (a := true) ((et_test (ev_neT (ef_var rfl (f1.sm s1)) (ef_tup (ks := []) ea_nil) (ik_depth2 l))).of (by simp [ik_nil, h0])) (fun _ => et_test (ev_neI (g1 s1) (g2 s1)))) (fun hb2 H2 s2 => ?_) (fun hb2 H2 s2 => ?_))
        · have hne : x ≠ y := by simpa using hb2
          refine s_ret (ev_I0 (g := fun i j => .bl (decide (i < j))) (g1 (s1.trans s2)) (g2 (s1.trans s2))) fun z H3 s3 e => ?_
          subst e
          have g := q H3 ((s1.trans s2).trans s3)
          rw [staysB, if_neg (by simp [hl]), if_pos ⟨h0, by rw [hx, hy]; simp [hne]⟩, hx, hy] at g
          exact g
        · have hne : x = y := by simpa using hb2
          refine s_ret (ev_leT (ef_var rfl ((f1.sm s1).sm s2)) (ef_var rfl ((f2.sm s1).sm s2))) fun z H3 s3 e => ?_
          subst e
          have g := q H3 ((s1.trans s2).trans s3)
          rw [staysB, if_neg (by simp [hl]), if_neg (by rw [hx, hy]; simp [hne])] at g
          exact g
def termR (ks : List NestedKey) (k : NestedKey) : Prop := ∃ (t : Int × Int) (b : Bool), ks = [.tup [.num t.1, .num t.2], .text (bS b)] ∧ k = .num (termOf t b)
theorem bS_visit (b : Bool) : decide (bS b = ("visit" : Str)) = b := by
  have h : bS false ≠ bS true := fun z => by cases bS_inj _ _ z
  cases b
  · exact decide_eq_false h
  · exact decide_eq_true rfl
theorem sc_term_of : FnScope ["terms", "sort"] ["terms", "sort"] (defScope s_term_of) := ⟨rfl, rfl, rfl, by decide +kernel, rfl, by decide +kernel, by decide +kernel⟩
theorem ok_term_of (D : Dat K mg "term_of" "term_of" s_term_of ["terms", "sort"]) : OK P w K mg base 1 "term_of" ["terms", "sort"] (fspR termR) := by
  refine ok_mk D sc_term_of (fun vs H Q E h => ?_) (fun f cdv A outer s H vs Q E hr h => ?_)
  · obtain ⟨ks, k, f, ⟨t, b, rfl, _⟩, _⟩ := h
    exact f.length
  · obtain ⟨ks, k, f, ⟨t, b, rfl, rfl⟩, q⟩ := h
    obtain ⟨v, u, rfl, f1, f2⟩ := f.two_inv
    obtain rfl := f2.str_inv
    refine ⟨_, (pss_one (ps_ret (pe_ifExp (pt_cmpR op_eq (pv 1) pe_str (nomark _)) (pe_ix ix_tup (pv 0) pe_int (fun _ _ => rfl)) (pe_ix ix_tup (pv 0) pe_int (fun _ _ => rfl))))), ?_⟩
    refine s_ret (ep_if (b := b) ((et_test (ev_eqS (ev_var (i := 1) rfl) ev_c)).of (bS_visit b)) (fun hb => ?_) (fun hb => ?_)) q
    · subst hb
      exact ef_ix (ef_var rfl f1) ev_c (atI_of (n := 0) rfl)
    · subst hb
      exact ef_ix (ef_var rfl f1) ev_c (atI_of (n := 1) rfl)
def spMourns (P : Program) (w : World) (CW : Addr) : Sp := fun vs H Q _ => ∃ a own g lost s marks n x d, vs = [.ref (WA.p a), .str x, .int d] ∧ WC P w CW H a own g lost s marks n ∧ n ≤ 900 ∧ ∀ H', Same H H' → Q (.bl (mournsB s.mourned x d)) H'
theorem sc_Walk_mourns : FnScope ["self", "name", "day", "first", "last"] ["self", "name", "day"] (defScope s_Walk_mourns) := ⟨rfl, rfl, rfl, by decide +kernel, rfl, by decide +kernel, by decide +kernel⟩
theorem ok_mourns (T : Txt K mg CH CW aK aA aG) (D : Mat K CW "mourns" "Walk.mourns" s_Walk_mourns ["self", "name", "day"]) : MOK P w K mg base 2 CW "mourns" ["self", "name", "day"] (spMourns P w CW) := by
  refine mok_mk D sc_Walk_mourns (fun vs H Q E h => ?_) (fun f cdv A outer s H vs Q E hr h => ?_)
  · obtain ⟨a, own, g, lost, s, marks, n, x, d, rfl, _⟩ := h
    rfl
  · obtain ⟨a, own, g, lost, s, marks, n, x, d, rfl, c, hn, q⟩ := h
    have hu := hr.units
    have hu0 := hr.units0
    have hu1 : _ + 1 < cLine := Nat.lt_of_le_of_lt (Nat.add_le_add_left (by decide : 1 ≤ 64) _) hu
    refine ⟨_, (pss_one (ps_ret (pe_callB (cr_any rfl) (by rfl) T.any b_any (pa_cons (pe_lc (own := [("first", 3), ("last", 4)]) rfl sc_Walk_mourns.nd (pi_list (pe_dget2 hu1 (pe_fld (pv 0) (by rfl)) (pv 1) (pe_lst pa_nil) ⟨rfl, rfl, rfl, rfl⟩)) (blkOk_by (own := [("first", 3), ("last", 4)]) (N := ["self", "name", "day", "first", "last"]) (sc := defScope s_Walk_mourns) (by decide +kernel)) (fun _ _ _ _ _ => (show PG _ _ (gTup K 2 _) from pg_tup rfl (pgs_cons (pg_name (i := 3) sc_Walk_mourns.nd rfl (Or.inl rfl)) (pgs_cons (pg_name (i := 4) sc_Walk_mourns.nd rfl (Or.inl rfl)) pgs_nil)))) (fun _ _ _ _ _ => pts_nil) (fun _ _ _ _ _ => (pe_chain op_le op_le (pv 3) (pv 2) (pv 4)))) pa_nil)))), ?_⟩
    obtain ⟨n1, n2, n3, n4, ho⟩ := c.o
    obtain ⟨kv, hm, rm, _⟩ := c.dm
    have fm : EvV (tFld K (tVar 0) "mourned") [some (.ref a.p), some (.str x), some (.int d), none, none] H (.ref a.mA) := ev_fld (ev_var rfl) ho T.clW (T.noW _ (by simp)) (wf_mourned _ _ _ _ _ _ _ _ _ _ _ _ _)
    have hsrc : ∃ xs, Paired (fun v e => Fz H v (pairK e)) xs ((aget s.mourned x).getD []) ∧ EvP (tDGet2 (tFld K (tVar 0) "mourned") (tVar 1) (tLst tNil)) [some (.ref a.p), some (.str x), some (.int d), none, none] H (fun v H2 => ∃ b, v = .ref b ∧ SqL K H2 b xs) := by
      rcases rm.get kS_inj x with ⟨e1, e2⟩ | ⟨l, v, e1, e2, b, xs, rfl, hb, fx, _⟩
      · refine ⟨[], by rw [e1]; exact .nil, fun H1 s1 Q q => fm H1 s1 _ fun u H2 s2 e => ⟨a.mA, e, .inl ⟨kv, .inl (s2 _ _ (s1 _ _ hm))⟩, _, rfl, Nat.zero_le _, fun b hb => ⟨none, ?_, q _ _ (s2.trans (Same.new hb)) ⟨b, rfl, sqL_of upd_same⟩⟩⟩⟩
        have g := DGet.k (k := kS x) (Same.new (o := .lst []) hb _ _ (s2 _ _ (s1 _ _ hm)))
        rw [e2] at g
        exact g
      · refine ⟨xs, ?_, fun H1 s1 Q q => fm H1 s1 _ fun u H2 s2 e => ⟨a.mA, e, .inl ⟨kv, .inl (s2 _ _ (s1 _ _ hm))⟩, _, rfl, Nat.zero_le _, fun b' hb' => ⟨some (.ref b), ?_, q _ _ (s2.trans (Same.new hb')) ⟨b, rfl, sqL_of (Same.new hb' _ _ (s2 _ _ (s1 _ _ hb)))⟩⟩⟩⟩
        · rw [e1]
          exact fx.map_paired
        · have g := DGet.k (k := kS x) (Same.new (o := .lst []) hb' _ _ (s2 _ _ (s1 _ _ hm)))
          rw [e2] at g
          exact g
    obtain ⟨xs, hp, hl⟩ := hsrc
    have hz : ((aget s.mourned x).getD []).length ≤ 90000 := by
      cases e : aget s.mourned x with
      | none => exact Nat.zero_le _
      | some l => exact Nat.le_trans (c.zl x l e) (by omega)
    have g := ep_lcL (R := fun H y (b : Bool) => y = .bl b) (p := fun _ => true) (e := fun e : Int × Int => decide (e.1 ≤ d) && decide (d ≤ e.2)) (vs := [3, 4]) (tt := tYes) (te := tChain (rI0 fun i j => .bl (decide (i ≤ j))) (rI0 fun i j => .bl (decide (i ≤ j))) (tVar 3) (tVar 2) (tVar 4)) (g := gTup K 2 (gCons (gName 3) (gCons (gName 4) gNil))) hl hp hz
      ⟨fun H H' y a s q => q, fun H H' D ys zs y a h1 h2 q => q, fun y e he fy H2 s2 => ?_⟩
    · refine s_ret (ev_any (bs := ((aget s.mourned x).getD []).map fun e => decide (e.1 ≤ d) && decide (d ≤ e.2)) (g.imp fun v H2 s2 ⟨b, ys, e, _, hb, hp2⟩ => ⟨b, e, ?_⟩)) fun v H2 s2 e => ?_
      · have e1 : ∀ {ys : List V} {bs : List Bool}, Paired (fun y (b : Bool) => y = V.bl b) ys bs → ys = bs.map V.bl := by
          intro ys bs h
          induction h with
          | nil => rfl
          | cons a _ ih => rw [a, ih] <;> rfl
        rw [List.filter_eq_self.mpr (fun _ _ => rfl)] at hp2
        rw [← e1 hp2]
        exact sqL_of hb
      · subst e
        have := q H2 s2
        unfold mournsB at this
        rw [List.any_map]
        exact this
    · refine ⟨[some (.ref a.p), some (.str x), some (.int d), some (.int e.1), some (.int e.2)], rfl, fun H' Q s3 q => ?_, et_yes, fun _ => ev_chainLe (ev_var rfl) (ev_var rfl) (ev_var rfl)⟩
      obtain ⟨b, zs, rfl, hb, fz⟩ := ((fy.sm s2).sm s3).tup_inv
      obtain ⟨v1, v2, rfl, f1, f2⟩ := fz.two_inv
      obtain rfl := f1.int_inv
      obtain rfl := f2.int_inv
      exact ⟨b, _, rfl, sqT_of hb, rfl, _, _, rfl, _, _, rfl, rfl, q⟩
end
end K34
namespace K34
open PySem PySem.Spec L2

/-! ### dicts with tuple keys: evaluation -/
section
variable {P : Program} {w : World} {K : PySem.W.Frag} {σ : St} {H : Hp} {td ty tv te : TE} {tt : TT} {D : Ends} {tz : TS} {R : V → Hp → Prop} {d : Addr} {k : NestedKey} {ks : List NestedKey} {v : V} {kvs : List (NestedKey × V)}
def IsKy (k : NestedKey) : Prop := k.depth ≤ 8 ∧ ∃ ks, k = .tup ks
theorem IsKy.page (p : Page) : IsKy p.key := ⟨Nat.le_trans p.depth (by decide), _, rfl⟩
theorem IsKy.due (p : Due) : IsKy p.key := ⟨Nat.le_trans p.depth (by decide), _, rfl⟩
theorem IsKy.ky {H : Hp} {v : V} (h : IsKy k) (f : Fz H v k) : KY H v k := ⟨f, h.1, h.2⟩
theorem ev_nget (hd : EvV td σ H (.ref d)) (hy : EvF ty σ H k) (dw : DW P w H d kvs) (hk : IsKy k) (hv : valV kvs k = some v) : EvV (tNGet P w td ty) σ H v := fun H1 s Q q => hd H1 s _ fun u H2 s2 e => hy H2 (s.trans s2) _ fun y H3 s3 f =>
  ⟨d, kvs, k, v, e, (((dw.sm s).sm s2).sm s3).dn, hk.ky f, hv, q _ H3 (s2.trans s3) rfl⟩
theorem ev_nin (hy : EvF ty σ H k) (hd : EvV td σ H (.ref d)) (dw : DW P w H d kvs) (hk : IsKy k) : EvV (tNIn P w ty td) σ H (.bl (valV kvs k).isSome) := fun H1 s Q q => hy H1 s _ fun y H2 s2 f => hd H2 (s.trans s2) _ fun u H3 s3 e =>
  ⟨d, kvs, k, e, (((dw.sm s).sm s2).sm s3).dn, hk.ky (f.sm s3), q _ H3 (s2.trans s3) rfl⟩
theorem ev_nget2 {tx : TE} {x : V} (hd : EvV td σ H (.ref d)) (hy : EvF ty σ H k) (hx : EvV tx σ H x) (dw : DW P w H d kvs) (hk : IsKy k) : EvV (tNGet2 P w td ty tx) σ H ((valV kvs k).getD x) := fun H1 s Q q => hd H1 s _ fun u H2 s2 e => ⟨d, e, ⟨kvs, ((dw.sm s).sm s2).dn⟩, hy H2 (s.trans s2) _ fun y H3 s3 f => hx H3 ((s.trans s2).trans s3) _ fun z H4 s4 e4 => by
  subst e4
  exact ⟨kvs, k, ((((dw.sm s).sm s2).sm s3).sm s4).dn, hk.ky (f.sm s4), q _ H4 ((s2.trans s3).trans s4) rfl⟩⟩
theorem s_nput (kp : Keeps R) (hv : EvP tv σ H R) (hd : EvV td σ H (.ref d)) (hy : EvF ty σ H k) (dw : DW P w H d kvs) (hk : IsKy k) (hz : kvs.length < 100000) (kk : ∀ v H1 H2, Same H H1 → R v H1 → DW P w H2 d (putK kvs k v) → (∀ b, b ≠ d → H2 b = H1 b) → D.nx σ H2) : sNPut P w td ty tv D σ H :=
  hv H (Same.refl _) _ fun v H1 s1 r => hd H1 s1 _ fun u H2 s2 e => hy H2 (s1.trans s2) _ fun y H3 s3 f =>
    ⟨d, kvs, k, e, ((dw.sm s1).sm s2).sm s3, hk.ky f, Nat.lt_of_lt_of_le hz (by decide), fun H4 dw4 ne => kk v H3 H4 ((s1.trans s2).trans s3) (kp v _ _ s3 (kp v _ _ s2 r)) dw4 ne⟩
theorem r_npop {Q : VK} (hd : EvV td σ H (.ref d)) (hy : EvF ty σ H k) (dw : DW P w H d kvs) (hk : IsKy k) (hv : valV kvs k = some v) (kk : ∀ H1 H2, Same H H1 → DW P w H2 d (dropK kvs k) → (∀ b, b ≠ d → H2 b = H1 b) → Q v H2) : tNPop P w td ty σ H Q :=
  hd H (Same.refl _) _ fun u H2 s2 e => ⟨d, e, ⟨kvs, (dw.sm s2).dn⟩, hy H2 s2 _ fun y H3 s3 f => ⟨kvs, k, v, (dw.sm s2).sm s3, hk.ky f, hv, fun H4 dw4 ne => kk H3 H4 (s2.trans s3) dw4 ne⟩⟩
/-- list(d) -/
theorem el_listN (hd : EvV td σ H (.ref d)) (dw : DW P w H d kvs) : EvP (tCB (fun xs H Q => ∃ d kvs, xs = [V.ref d] ∧ DN P w H d kvs ∧ ∀ p vs, H p = none → FzA H vs (kvs.map (·.1)) → Q (.ref p) (upd H p (.lst vs))) (tCons td tNil)) σ H fun v H2 => LW H H2 v (kvs.map (·.1)) := fun H1 s Q q => hd H1 s _ fun u H2 s2 e =>
  ⟨d, kvs, by rw [e] <;> rfl, ((dw.sm s).sm s2).dn, fun p vs hp f => q _ _ (s2.trans (Same.new hp)) ⟨p, vs, rfl, s.free (s2.free hp), upd_same, f.sm (Same.new hp)⟩⟩

/-! ### [.. for k in d], d locked -/
theorem lc_nk {o : Obj} {ts : List Ent} {g : TG} {vs : List Nat} {H1 : Hp} {L : Addr} {Qd : Hp → Prop} (Pv : Nat → Hp → Prop) (h0 : Pv 0 (upd H1 L (.lst []))) (hl : ∀ i H, i ≤ ts.length → Pv i H → H d = some (.frz o (ND P w d ts)))
    (hs : ∀ i t H, ts[i]? = some t → Pv i H → g (.ref t.2.1) (wipe σ vs) H fun σ2 H2 => wipe σ2 vs = wipe σ vs ∧ tt σ2 H2 fun b H3 =>
      if b = true then te σ2 H3 fun y H4 => ∃ acc, H4 L = some (.lst acc) ∧ acc.length < sizeLine ∧ Pv (i + 1) (upd H4 L (.lst (acc ++ [y]))) else Pv (i + 1) H3) (hd : ∀ H, Pv ts.length H → Qd H) :
    ∃ W : Nat → Nat → Hp → Prop, (∃ m, W 0 m (upd H1 L (.lst []))) ∧ ∀ i m H, W i m H →
      ((Itn P w d o ts).stop i H ∧ Qd H) ∨ ((Itn P w d o ts).go i H ∧ ∃ Nx : Hp → Prop, (∀ H', Nx H' → ∃ m', m' < m ∧ W (i + 1) m' H') ∧ ∀ x H', (Itn P w d o ts).yld i H x H' → g x (wipe σ vs) H' fun σ2 H2 => wipe σ2 vs = wipe σ vs ∧ tt σ2 H2 fun b H3 =>
        if b = true then te σ2 H3 fun y H4 => ∃ acc, H4 L = some (.lst acc) ∧ acc.length < sizeLine ∧ Nx (upd H4 L (.lst (acc ++ [y]))) else Nx H3) := by
  refine ⟨fun i m H => m = ts.length - i ∧ i ≤ ts.length ∧ Pv i H, ⟨ts.length, by simp, Nat.zero_le _, h0⟩, ?_⟩
  rintro i m H ⟨rfl, hi, p⟩
  have q := hl i H hi p
  by_cases hlt : i < ts.length
  · refine .inr ⟨⟨q, hlt⟩, Pv (i + 1), fun H' p' => ⟨ts.length - (i + 1), by omega, rfl, hlt, p'⟩, fun x H' y => ?_⟩
    obtain ⟨e, t, ht, ex⟩ := y
    subst e ex
    exact hs i t _ ht p
  · have e : i = ts.length := by omega
    subst e
    exact .inl ⟨⟨q, Nat.le_refl _⟩, hd H p⟩
theorem el_lcN {o : Obj} {ts : List Ent} {j : Nat} {vs : List Nat} (p : NestedKey → Bool) (e : NestedKey → NestedKey) (hl : EvV td σ H (.ref d)) (hd : H d = some (.frz o (ND P w d ts))) (hk : ∀ t ∈ ts, Fz H (.ref t.2.1) t.1) (hz : ts.length ≤ 90000) (hw : ∀ x, wipe ((wipe σ vs).set j (some x)) vs = wipe σ vs)
    (ht : ∀ x t H1, t ∈ ts → Same H H1 → Fz H1 x t.1 → EvT tt ((wipe σ vs).set j (some x)) H1 (p t.1)) (he : ∀ x t H1, t ∈ ts → Same H H1 → Fz H1 x t.1 → p t.1 = true → EvF te ((wipe σ vs).set j (some x)) H1 (e t.1)) :
    EvP (tLc (iNKeys P w td) (gName j) tt te vs) σ H fun v H2 => LW H H2 v (((ts.map (·.1)).filter p).map e) := fun H0 s Q q => hl H0 s _ fun v H1 s1 ev => by
  have B : LcB σ H (fun x (t : Ent) => x = .ref t.2.1) (fun H y k => Fz H y k) (gName j) tt te vs (fun t => p t.1) (fun t => e t.1) ts :=
    ⟨fun H H' y a s q => q.sm s, fun H H' D ys zs y a h1 h2 q => by subst h2; exact q.tk (TK.upd fun xs z => by rw [h1] at z; cases z), fun x t hk' fk H2 s2 => ⟨_, hw x, fun H' Q _ q => q, ht x t H2 hk' s2 (by subst fk; exact (hk t hk').sm s2), fun hp => he x t H2 hk' s2 (by subst fk; exact (hk t hk').sm s2) hp⟩⟩
  refine ⟨d, o, ts, ev, s1 _ _ (s _ _ hd), fun L hL => lc_nk (fun n H' => LcI H1 (fun H y k => Fz H y k) L (((ts.take n).filter fun t => p t.1).map fun t => e t.1) H') ⟨hL, Same.new hL, [], upd_same, .nil⟩ (fun n H' _ i => i.2.1 _ _ (s1 _ _ (s _ _ hd))) (fun n t H' hn i => lc_at B (s.trans s1) hz hn rfl i) (fun H' i => ?_)⟩
  obtain ⟨hL, s2, ys, h2, h3⟩ := i
  rw [List.take_length] at h3
  refine q _ H' (s1.trans s2) ⟨L, ys, rfl, s.free (s1.free hL), h2, FzA.of_paired ?_⟩
  rw [List.filter_map, List.map_map]
  exact h3
/-- the dict locked: all but it stays -/
theorem el_lock {j : Nat} {vs : List Nat} {H0 : Hp} (p : NestedKey → Bool) (e : NestedKey → NestedKey) (dw : DW P w H0 d kvs) (hz : kvs.length ≤ 90000) (hw : ∀ x, wipe ((wipe σ vs).set j (some x)) vs = wipe σ vs)
    (hl : ∀ Hl, (∀ b, b ≠ d → Hl b = H0 b) → TK H0 Hl → EvV td σ Hl (.ref d))
    (ht : ∀ x k Hl H1, (∀ b, b ≠ d → Hl b = H0 b) → TK H0 Hl → k ∈ kvs.map (·.1) → Same Hl H1 → Fz H1 x k → EvT tt ((wipe σ vs).set j (some x)) H1 (p k)) (he : ∀ x k Hl H1, (∀ b, b ≠ d → Hl b = H0 b) → TK H0 Hl → k ∈ kvs.map (·.1) → Same Hl H1 → Fz H1 x k → p k = true → EvF te ((wipe σ vs).set j (some x)) H1 (e k)) :
    ∃ u, H0 d = some u ∧ Mut (some u) ∧ ∀ od, ∀ Q : VK, (∀ v H', H' d = some (.frz od u) → Same H0 (upd H' d u) → LW H0 (upd H' d u) v (((kvs.map (·.1)).filter p).map e) → Q v H') → tLc (iNKeys P w td) (gName j) tt te vs σ (upd H0 d (.frz od u)) Q := by
  obtain ⟨ts, h1, h2, h3⟩ := dw
  refine ⟨_, h1, trivial, fun od Q q => ?_⟩
  have tk : TK H0 (upd H0 d (.frz od (ND P w d ts))) := TK.upd fun xs z => by rw [h1] at z; cases z
  have ne : ∀ b, b ≠ d → upd H0 d (.frz od (ND P w d ts)) b = H0 b := fun b hb => upd_ne hb
  have ek : ts.map (·.1) = kvs.map (·.1) := by
    rw [← h2, List.map_map] <;> rfl
  have hlen : ts.length ≤ 90000 := by
    rw [← h2, List.length_map] at hz
    exact hz
  refine el_lcN p e (hl _ ne tk) upd_same (fun t ht => ((h3 t ht).1).tk tk) hlen hw (fun x t H1 hm s1 f => ht x t.1 _ H1 ne tk (by rw [← ek]; exact List.mem_map_of_mem hm) s1 f) (fun x t H1 hm s1 f hp => he x t.1 _ H1 ne tk (by rw [← ek]; exact List.mem_map_of_mem hm) s1 f hp) _ (Same.refl _) Q fun v H' s1 l => ?_
  have hd' := s1 _ _ upd_same
  refine q v H' hd' (fun a o e => ?_) ?_
  · by_cases h : a = d
    · rw [h] at e ⊢
      rw [h1] at e
      cases e
      exact upd_same
    · rw [upd_ne h]
      exact s1 _ _ (by rw [upd_ne h]; exact e)
  · obtain ⟨L, ys, rfl, hn, hL, hf⟩ := l
    rw [ek] at hf
    have hn0 : H0 L = none := by
      cases e : H0 L with
      | none => rfl
      | some o =>
        by_cases h : L = d
        · rw [h, hd'] at hL; cases hL
        · rw [upd_ne h, e] at hn; cases hn
    exact ⟨L, ys, rfl, hn0, by rw [upd_ne (ne_of hL hd' (by intro z; cases z))]; exact hL, hf.tk (TK.upd fun xs z => by rw [hd'] at z; cases z)⟩
end
end K34
namespace K34
open PySem PySem.Spec L2

noncomputable def dueOf (k : NestedKey) : Due := @dite _ (∃ d : Due, d.key = k) (Classical.propDecidable _) (fun h => h.choose) (fun _ => ⟨"", "", .join 0 "" ""⟩)
theorem dueOf_key (d : Due) : dueOf d.key = d := by
  unfold dueOf
  have h : ∃ d' : Due, d'.key = d.key := ⟨d, rfl⟩
  rw [dif_pos h]
  exact Due.key_inj h.choose_spec
noncomputable def pageOf (k : NestedKey) : Page := @dite _ (∃ d : Page, d.key = k) (Classical.propDecidable _) (fun h => h.choose) (fun _ => .join 0 "" "")
theorem pageOf_key (d : Page) : pageOf d.key = d := by
  unfold pageOf
  have h : ∃ d' : Page, d'.key = d.key := ⟨d, rfl⟩
  rw [dif_pos h]
  exact Page.key_inj h.choose_spec
theorem filter_due (l : List Due) (p : Due → Bool) : (l.map Due.key).filter (fun k => p (dueOf k)) = (l.filter p).map Due.key := by
  rw [List.filter_map]
  congr 1
  refine List.filter_congr fun d _ => ?_
  show p (dueOf d.key) = p d
  rw [dueOf_key]
theorem cutT2 (a b c : NestedKey) : cutK [a, b, c] none (some 2) = [a, b] := by
  simp [cutK, HT.sIx]
section
variable {P : Program} {w : World} {K : PySem.W.Frag} {mg : Str → Option Value} {base : Heap} {CH CW aK aA aG : Addr} {H H' : Hp} {a : WA} {own : Addr → Prop} {g : WG} {lost : List Page} {s : WS} {marks : List (Page × NestedKey)} {n : Nat} {σ : St}
theorem WC.fld (c : WC P w CW H a own g lost s marks n) (T : Txt K mg CH CW aK aA aG) {f : Str} {v : V} (hm : f ∈ (["own_pages", "own_terms", "lost", "homes", "mourned", "sorts", "falls", "marks", "answers", "made", "copied", "struck", "merged"] : List Str))
    (lk : ∀ n1 n2 n3 n4, (wf a.vB a.vT a.lA a.hA a.mA a.sA a.fA a.kA a.aA n1 n2 n3 n4).lookup f = some v) (h : σ[0]? = some (some (.ref a.p))) : EvV (tFld K (tVar 0) f) σ H v := by
  obtain ⟨n1, n2, n3, n4, ho⟩ := c.o
  exact ev_fld (ev_var h) ho T.clW (T.noW _ hm) (lk _ _ _ _)
theorem WC.fFalls (c : WC P w CW H a own g lost s marks n) (T : Txt K mg CH CW aK aA aG) (h : σ[0]? = some (some (.ref a.p))) : EvV (tFld K (tVar 0) "falls") σ H (.ref a.fA) := c.fld T (by simp) (fun _ _ _ _ => rfl) h
theorem WC.fSorts (c : WC P w CW H a own g lost s marks n) (T : Txt K mg CH CW aK aA aG) (h : σ[0]? = some (some (.ref a.p))) : EvV (tFld K (tVar 0) "sorts") σ H (.ref a.sA) := c.fld T (by simp) (fun _ _ _ _ => rfl) h
theorem WC.fHomes (c : WC P w CW H a own g lost s marks n) (T : Txt K mg CH CW aK aA aG) (h : σ[0]? = some (some (.ref a.p))) : EvV (tFld K (tVar 0) "homes") σ H (.ref a.hA) := c.fld T (by simp) (fun _ _ _ _ => rfl) h
theorem ev_mourns (c : WC P w CW H a own g lost s marks n) (hn : n ≤ 900) {t : TA} {x : Str} {d : Int} (h : σ[0]? = some (some (.ref a.p))) (ha : EvAF t σ H [.text x, .num d]) : EvV (tMeth CW "mourns" (spMourns P w CW) [] E0 (tVar 0) t) σ H (.bl (mournsB s.mourned x d)) := fun H1 s1 Q q => by
  obtain ⟨n1, n2, n3, n4, ho⟩ := c.o
  refine m_call (A := fun vs H2 => FzA H2 vs [.text x, .num d]) (ev_var h) (s1 _ _ ho) (wf_no _ _ _ _ _ _ _ _ _ _ _ _ _ _ (by simp)) (ha.sm s1) fun vs H2 s2 fa => ?_
  obtain ⟨u, v, rfl, fu, fv⟩ := fa.two_inv
  obtain rfl := fu.str_inv
  obtain rfl := fv.int_inv
  exact ⟨a, own, g, lost, s, marks, n, x, d, rfl, (c.sm s1).sm s2, hn, fun H3 s3 => q _ H3 (s2.trans s3) rfl⟩
def spIsMet (P : Program) (w : World) (CW : Addr) : Sp := fun vs H Q _ => ∃ a own g lost s marks n v vv d x y, vs = [.ref (WA.p a), v] ∧ WC P w CW H a own g lost s marks n ∧ n ≤ 900 ∧ Fz H v (Page.key (.going vv d x y)) ∧ (aget s.homes y).isSome = true ∧ ∀ H', Same H H' → Q (.bl (s.isMet vv d x y)) H'
theorem sc_Walk_is_met : FnScope ["self", "page", "kind", "day", "one", "other"] ["self", "page"] (defScope s_Walk_is_met) := ⟨rfl, rfl, rfl, by decide +kernel, rfl, by decide +kernel, by decide +kernel⟩
theorem ok_is_met (T : Txt K mg CH CW aK aA aG) (D : Mat K CW "is_met" "Walk.is_met" s_Walk_is_met ["self", "page"]) (M_mourns : MOK P w K mg base 2 CW "mourns" ["self", "name", "day"] (spMourns P w CW)) : MOK P w K mg base 4 CW "is_met" ["self", "page"] (spIsMet P w CW) := by
  refine mok_mk D sc_Walk_is_met (fun vs H Q E h => ?_) (fun f cdv A outer s H vs Q E hr h => ?_)
  · obtain ⟨a, own, g, lost, s, marks, n, v, vv, d, x, y, rfl, _⟩ := h
    rfl
  · obtain ⟨a, own, g, lost, s, marks, n, v, vv, d, x, y, rfl, c, hn, f1, hy, q⟩ := h
    have hu := hr.units
    have hu0 := hr.units0
    have hu1 : _ + 1 < cLine := Nat.lt_of_le_of_lt (Nat.add_le_add_left (by decide : 1 ≤ 64) _) hu
    obtain ⟨tw, hweek⟩ := T.week
    refine ⟨_, (pss_cons (ps_asg (pv 1) (pg_tup rfl (pgs_cons (pg_name (i := 2) sc_Walk_is_met.nd rfl (Or.inl rfl)) (pgs_cons (pg_name (i := 3) sc_Walk_is_met.nd rfl (Or.inl rfl)) (pgs_cons (pg_name (i := 4) sc_Walk_is_met.nd rfl (Or.inl rfl)) (pgs_cons (pg_name (i := 5) sc_Walk_is_met.nd rfl (Or.inl rfl)) pgs_nil)))))) (pss_cons (ps_if (pw_or (pt_cmpR op_ne (pv 2) pe_str (nomark _)) (pw_or1 (pt_cmpR op_notIn_seq (pe_op op_mod (pv 3) (pe_glob (v := .int 7) (by rfl) hweek ⟨_, rfl⟩)) (pe_dget hu1 (pe_fld (pv 0) (by rfl)) (pv 5) (fun _ _ => rfl)) (by with_unfolding_all rfl)))).pt (pss_one (ps_ret pe_bl)) pss_nil) (pss_one (ps_ret (pe_and (pe_not (px_meth T.clW M_mourns (hr.mono (by decide)) (pv 0) (pa_cons (pv 4) (pa_cons (pv 3) pa_nil)))) (pe_one (pe_not (px_meth T.clW M_mourns (hr.mono (by decide)) (pv 0) (pa_cons (pv 5) (pa_cons (pv 3) pa_nil)))))))))), ?_⟩
    refine q_unp4 (k1 := .text (bS vv)) (k2 := .num d) (k3 := .text x) (k4 := .text y) (i := 1) rfl f1 fun v1 v2 v3 v4 g1 g2 g3 g4 => ?_
    obtain rfl := g1.str_inv
    obtain rfl := g2.int_inv
    obtain rfl := g3.str_inv
    obtain rfl := g4.str_inv
    obtain ⟨h, eh⟩ := Option.isSome_iff_exists.mp hy
    obtain ⟨kv, hkv, rkv⟩ := c.dh
    obtain ⟨vh, hvh, fvh⟩ := rkv.some kS_inj eh
    have t1 : EvT (tTest (tOp rNe (tVar 2) (tC (.str "visit")))) [some (.ref a.p), some v, some (.str (bS vv)), some (.int d), some (.str x), some (.str y)] H (!vv) := (et_test (ev_neS (ev_var rfl) ev_c)).of (by rw [bS_visit])
    have t2 : EvT (tTest (tOp (rIn K true) (tOp (rI (fun _ j => 0 < j) fun i j => .int (i % j)) (tVar 3) (tC (.int 7))) (tDGet (tFld K (tVar 0) "homes") (tVar 5)))) [some (.ref a.p), some v, some (.str (bS vv)), some (.int d), some (.str x), some (.str y)] H (!decide (d % 7 ∈ h)) :=
      et_test (ev_notInI (ev_I (g := fun i j => .int (i % j)) (ev_var rfl) ev_c (by decide)) ((ev_dget (c.fHomes T rfl) (ev_var rfl) hkv hvh).imp fun u H2 s2 e => by subst e; exact fvh.sm s2))
    refine seqi (s_if (et_or t1 fun _ => t2) (fun hb H1 s1 => ?_) (fun hb H1 s1 => ?_))
    · refine s_ret ev_c fun u H2 s2 e => ?_
      subst e
      have := q H2 (s1.trans s2)
      unfold WS.isMet at this
      rw [eh] at this
      rw [if_pos (show (!vv || !decide (d % 7 ∈ (some h).getD [])) = true from hb)] at this
      exact this
    · have c1 := c.sm s1
      refine s_ret (ev_andV (ev_notV (ev_mourns c1 hn rfl (ea_cons (ef_of_str (ev_var rfl)) (ea_cons (ef_of_int (ev_var rfl)) ea_nil)))) fun _ => ev_notV (ev_mourns c1 hn rfl (ea_cons (ef_of_str (ev_var rfl)) (ea_cons (ef_of_int (ev_var rfl)) ea_nil)))) fun u H2 s2 e => ?_
      subst e
      have := q H2 (s1.trans s2)
      unfold WS.isMet at this
      rw [eh, if_neg (show ¬ (!vv || !decide (d % 7 ∈ (some h).getD [])) = true from fun z => by
        have z : (!vv || !decide (d % 7 ∈ h)) = true := z
        rw [hb] at z; cases z)] at this
      exact this
def spLay (P : Program) (w : World) (CW : Addr) : Sp := fun vs H Q _ => ∃ a own g lost s marks n v u d l, vs = [.ref (WA.p a), v, u] ∧ WC P w CW H a own g lost s marks n ∧ Fz H v (Due.key d) ∧ Fz H u (.tup (ik l)) ∧ s.falls.length ≤ 90000 ∧ ∀ H' own', Step own H own' H' → WC P w CW H' a own' g lost { s with falls := layF s.falls d l } marks n → Q .non H'
theorem df_get (c : WC P w CW H a own g lost s marks n) : ∃ kv, DW P w H a.fA kv ∧ DR Due.key (FallR H) kv s.falls ∧ kv.length = s.falls.length := let ⟨kv, d, r⟩ := c.df; ⟨kv, d, r, r.length⟩
theorem sc_Walk_lay : FnScope ["self", "due", "falls", "there"] ["self", "due", "falls"] (defScope s_Walk_lay) := ⟨rfl, rfl, rfl, by decide +kernel, rfl, by decide +kernel, by decide +kernel⟩
theorem ok_lay (T : Txt K mg CH CW aK aA aG) (D : Mat K CW "lay" "Walk.lay" s_Walk_lay ["self", "due", "falls"]) (G_stays : OK P w K mg base 2 "stays" ["one", "other"] spStays) : MOK P w K mg base 4 CW "lay" ["self", "due", "falls"] (spLay P w CW) := by
  refine mok_mk D sc_Walk_lay (fun vs H Q E h => ?_) (fun f cdv A outer s H vs Q E hr h => ?_)
  · obtain ⟨a, own, g, lost, s, marks, n, v, u, d, l, rfl, _⟩ := h
    rfl
  · obtain ⟨a, own, g, lost, s, marks, n, v, u, d, l, rfl, c, f1, f2, hz, q⟩ := h
    have hu := hr.units
    have hu0 := hr.units0
    have hu1 : _ + 1 < cLine := Nat.lt_of_le_of_lt (Nat.add_le_add_left (by decide : 1 ≤ 64) _) hu
    refine ⟨_, (pss_cons (ps_set (i := 3) sc_Walk_lay.nd rfl (Or.inl rfl) (pe_nget2 hu (pe_fld (pv 0) (by rfl)) (pv 1) pe_non ⟨rfl, rfl, rfl, rfl⟩)) (pss_cons (ps_if (pt_cmpR op_notN (pv 3) pe_non (nomark _)) (pss_one (ps_fld (pv 0) (pe_op op_add (pe_fld (pv 0) (by rfl)) pe_int) rfl)) pss_nil) (pss_one (ps_if (pw_or (pt_cmpR op_isN (pv 3) pe_non (nomark _)) (pw_or1 (pt_not (pt_val (px_call G_stays (hr.mono (by decide)) (by rfl) (pa_cons (pv 3) (pa_cons (pv 2) pa_nil))))))).pt (pss_one (ps_nput hu (pe_fld (pv 0) (by rfl)) (pv 1) (pv 2) rfl)) pss_nil)))), ?_⟩
    obtain ⟨kv, dw, r, hl⟩ := df_get c
    have hinj : ∀ x y : Due, x.key = y.key → x = y := fun _ _ => Due.key_inj
    refine q_asg (ev_nget2 (c.fFalls T rfl) (ef_var rfl f1) ev_c dw (IsKy.due d)) fun t H1 s1 e => ?_
    subst e
    have put : ∀ {H2 : Hp} {σ : St} {Dn : Ends} {own2 : Addr → Prop}, Step own H own2 H2 → (∃ kv2, DW P w H2 a.fA kv2 ∧ DR Due.key (FallR H2) kv2 s.falls) → WC P w CW H2 a own2 g lost s marks n → σ[0]? = some (some (.ref a.p)) → σ[1]? = some (some v) → σ[2]? = some (some u) → layF s.falls d l = aput s.falls d l → Dn.nx = (fun _ H' => Q .non H') →
        sNPut P w (tFld K (tVar 0) "falls") (tVar 1) (tVar 2) Dn σ H2 := by
      intro H2 σ Dn own2 st ⟨kv2, dw2, r2⟩ c2 h0 h1 h2 el eD
      refine s_nput (R := fun v H => Fz H v (.tup (ik l))) kp_fz (ef_var h2 (f2.tk st.tk)) (c2.fFalls T h0) (ef_var h1 (f1.tk st.tk)) dw2 (IsKy.due d) (by rw [r2.length]; omega) fun v' H3 H4 s3 fv dw4 ne => ?_
      obtain ⟨c4, st4⟩ := (c2.sm s3).setF dw4 ne (DR.put hinj (r2.imp fun _ _ q => q.sm s3) (a := l) fv)
      rw [eD, ]
      refine q H4 own2 (st.trans ((Step.of_same s3).trans st4)) ?_
      rw [el]
      exact c4
    rcases r.get hinj d with ⟨e1, e2⟩ | ⟨there, tv, e1, e2, ft⟩
    · rw [e2]
      have el : layF s.falls d l = aput s.falls d l := by unfold layF; rw [e1]
      refine seqi (s_ifF ((et_test (b := false) (fun H2 s2 Q q => ⟨_, rfl, rfl, q _ H2 (Same.refl _) rfl⟩))) fun H2 s2 => ?_)
      dsimp only [tNext]
      refine s_ifT (et_or (a := true) (b := true) (et_test (fun H3 s3 Q q => ⟨_, rfl, rfl, q _ H3 (Same.refl _) rfl⟩)) (fun e => by cases e)) fun H3 s3 => ?_
      have s3 := (s1.trans s2).trans s3
      exact put (.of_same s3) ⟨kv, dw.sm s3, r.imp fun _ _ q => q.sm s3⟩ (c.sm s3) rfl rfl rfl el rfl
    · rw [e2]
      obtain ⟨ta, txs, rfl, htx, ftx⟩ := ft.tup_inv
      have nn : ∀ b, (V.ref b = V.non) = False := fun b => by simp
      refine seqi (s_ifT ((et_test (b := true) (fun H2 s2 Q q => ⟨_, rfl, rfl, q _ H2 (Same.refl _) rfl⟩))) fun H2 s2 => ?_)
      have s2 := s1.trans s2
      obtain ⟨n1, n2, n3, n4, ho⟩ := c.o
      refine s_fldV (P := fun v _ => v = .int (n4 + 1)) kp_ev (ev_I0 (g := fun i j => .int (i + j)) (ev_fld (ev_var rfl) (s2 _ _ ho) T.clW (T.noW _ (by simp)) (wf_merged _ _ _ _ _ _ _ _ _ _ _ _ _)) ev_c) (ev_var rfl) (s2 _ _ ho) T.clW (T.noW _ (by simp)) (by show (13 : Nat) < 900; decide) fun v' H3 s3 e => ?_
      subst e
      rw [wf_put4]
      obtain ⟨c4, st4⟩ := ((c.sm s2).sm s3).setN (m1 := n1) (m2 := n2) (m3 := n3) (m4 := n4 + 1)
      have st4 := (Step.of_same (own := own) (s2.trans s3)).trans st4
      have t1 : EvT (tNot (tB (tCall spStays [] E0 (tCons (tVar 3) (tCons (tVar 2) tNil))))) [some (.ref a.p), some v, some u, some (.ref ta)] (upd H3 a.p (.ins CW a.dx (wf a.vB a.vT a.lA a.hA a.mA a.sA a.fA a.kA a.aA n1 n2 n3 (n4 + 1)))) (!staysB there l) := et_not (et_B fun H5 s5 Q q => ⟨_, rfl, _, rfl, there, l, .cons ((ft.tk st4.tk).sm s5) (.one ((f2.tk st4.tk).sm s5)), fun H6 s6 => q _ H6 s6 rfl⟩)
      dsimp only
      refine s_if (et_or (a := false) (et_test (fun H3 s3 Q q => ⟨_, rfl, rfl, q _ H3 (Same.refl _) rfl⟩)) (fun _ => t1)) (fun hb H5 s5 => ?_) (fun hb H5 s5 => ?_)
      · have st5 := st4.trans (.of_same s5)
        have c5 := c4.sm s5
        obtain ⟨kv5, dw5, r5⟩ := c5.df
        refine put st5 ⟨kv5, dw5, r5⟩ c5 rfl rfl rfl ?_ rfl
        unfold layF
        rw [e1]
        simp at hb
        simp [hb]
      · refine q _ own (st4.trans (.of_same s5)) ?_
        have el : layF s.falls d l = s.falls := by
          unfold layF
          rw [e1]
          simp at hb
          simp [hb]
        rw [el]
        exact c4.sm s5
end
end K34
namespace K34
open PySem PySem.Spec L2

section
variable {K : PySem.W.Frag} {σ : St} {H : Hp} {ta tl : TE} {g : TG} {tu tz : TS} {D : Ends} {ks : List NestedKey}
theorem et_eqN (h : EvP ta σ H fun v H2 => LF K H2 v ks) : EvT (tTest (tOp (rEqN K) ta (tLst tNil))) σ H ks.isEmpty := fun H1 s Q q => h H1 s _ fun v H2 s2 ⟨a, xs, e, hx, fx⟩ => ⟨Nat.zero_le _, fun p hp => ⟨a, p, xs, e, rfl, (Same.new hp).seq hx, sqL_of upd_same, _, rfl, by
  have e : xs.isEmpty = ks.isEmpty := by
    have := fx.length
    cases xs <;> cases ks <;> simp_all
  rw [e]
  exact q _ (s2.trans (Same.new hp))⟩⟩
theorem et_neN (h : EvP ta σ H fun v H2 => LF K H2 v ks) : EvT (tTest (tOp (rNeN K) ta (tLst tNil))) σ H (!ks.isEmpty) := fun H1 s Q q => h H1 s _ fun v H2 s2 ⟨a, xs, e, hx, fx⟩ => ⟨Nat.zero_le _, fun p hp => ⟨a, p, xs, e, rfl, (Same.new hp).seq hx, sqL_of upd_same, _, rfl, by
  have e : xs.isEmpty = ks.isEmpty := by
    have := fx.length
    cases xs <;> cases ks <;> simp_all
  rw [e]
  exact q _ (s2.trans (Same.new hp))⟩⟩
/-- over a new list, which stays -/
theorem s_forW (h : EvP tl σ H fun v H2 => LW H H2 v ks) (k : ∀ L ys H1, Same H H1 → H L = none → H1 L = some (.lst ys) → FzA H1 ys ks → ∃ Pv : Nat → St → Hp → Prop, Pv 0 σ H1 ∧ (∀ i σ' H', Pv i σ' H' → TK H1 H' ∧ H' L = some (.lst ys)) ∧
      (∀ i j x σ' H', ks[i]? = some j → Fz H' x j → Pv i σ' H' → g x σ' H' fun σ2 H2 => tu { D with nx := Pv (i + 1), ct := Pv (i + 1), bk := D.nx } σ2 H2) ∧ (∀ σ' H', Pv ks.length σ' H' → D.nx σ' H')) : tFor (iList K tl) g tu D σ H := by
  refine h H (Same.refl _) _ fun v H1 s ⟨L, ys, e, hn, hL, fx⟩ => ?_
  subst e
  obtain ⟨Pv, h0, tk, hs, hd⟩ := k L ys H1 s hn hL fx
  refine ⟨L, rfl, ⟨ys, sqL_of hL⟩, for_list (xs := ys) Pv h0 (fun i σ' H' _ p => sqL_of (tk i σ' H' p).2) (fun i x σ' H' hi p => ?_) (fun σ' H' p => hd σ' H' (by rw [← fx.length]; exact p))⟩
  obtain ⟨j, hj, fj⟩ := fx.get hi
  exact hs i j x σ' H' hj (fj.tk (tk i σ' H' p).1) p
end
section
variable {P : Program} {w : World} {K : PySem.W.Frag} {mg : Str → Option Value} {base : Heap} {CH CW aK aA aG : Addr} {H H' : Hp} {a : WA} {own : Addr → Prop} {g : WG} {lost : List Page} {s : WS} {marks : List (Page × NestedKey)} {n : Nat} {σ : St} {tg : TG} {tu : TS} {D : Ends}
theorem DR.keysDue {R : V → List Int → Prop} {kv : List (NestedKey × V)} {l : Falls} (r : DR Due.key R kv l) : kv.map (·.1) = (l.map (·.1)).map Due.key := by
  rw [DR.keys r, List.map_map] <;> rfl
def WInv (P : Program) (w : World) (CW : Addr) (H : Hp) (a : WA) (own : Addr → Prop) (g : WG) (lost : List Page) (s : WS) (marks : List (Page × NestedKey)) (n : Nat) (F : Falls) (H' : Hp) : Prop := ∃ own', Step own H own' H' ∧ WC P w CW H' a own' g lost { s with falls := F } marks n
/-- for due in list(self.falls) -/
theorem walk_for (c : WC P w CW H a own g lost s marks n) (T : Txt K mg CH CW aK aA aG) (h0 : σ[0]? = some (some (.ref a.p))) (F : Nat → Falls) (F0 : F 0 = s.falls) (Sg : St → Prop) (hs : Sg σ)
    (body : ∀ H1, Same H H1 → ∀ i d x σ' H', (s.falls.map (·.1))[i]? = some d → Fz H' x d.key → Sg σ' → WInv P w CW H1 a own g lost s marks n (F i) H' → tg x σ' H' fun σ2 H2 => tu { D with nx := fun σ3 H3 => Sg σ3 ∧ WInv P w CW H1 a own g lost s marks n (F (i + 1)) H3, ct := fun σ3 H3 => Sg σ3 ∧ WInv P w CW H1 a own g lost s marks n (F (i + 1)) H3, bk := D.nx } σ2 H2)
    (hd : ∀ σ' H', Sg σ' → WInv P w CW H a own g lost s marks n (F s.falls.length) H' → D.nx σ' H') :
    tFor (iList K (tCB (fun xs H Q => ∃ d kvs, xs = [V.ref d] ∧ DN P w H d kvs ∧ ∀ p vs, H p = none → FzA H vs (kvs.map (·.1)) → Q (.ref p) (upd H p (.lst vs))) (tCons (tFld K (tVar 0) "falls") tNil))) tg tu D σ H := by
  obtain ⟨kv, dw, r⟩ := c.df
  have hl := el_listN (c.fFalls T h0) dw
  rw [r.keysDue] at hl
  refine s_forW hl fun L ys H1 s1 hn hL fx => ?_
  have nL : ¬ own L := fun z => c.ol _ z hn
  refine ⟨fun i σ' H' => Sg σ' ∧ WInv P w CW H1 a own g lost s marks n (F i) H', ⟨hs, own, .refl _ _, ?_⟩, fun i σ' H' ⟨_, own', st, _⟩ => ⟨st.tk, st.keep _ _ hL nL⟩, fun i j x σ' H' hj fj p => ?_, fun σ' H' ⟨q1, own', st, q2⟩ => ?_⟩
  · rw [F0]
    exact c.sm s1
  · rw [List.getElem?_map] at hj
    obtain ⟨d, hd', rfl⟩ := Option.map_eq_some_iff.mp hj
    exact body H1 s1 i d x σ' H' hd' fj p.1 p.2
  · rw [List.length_map, List.length_map] at q2
    exact hd σ' H' q1 ⟨own', (Step.of_same s1).trans st, q2⟩
theorem keys_take {l : List Due} {i : Nat} {d : Due} (h : l[i]? = some d) {α : Type} (f : α → Due → α) (x : α) : (l.take (i + 1)).foldl f x = f ((l.take i).foldl f x) d := by
  rw [List.take_add_one, h, List.foldl_append] <;> rfl
def partStep (name fresh : Str) (acc : Falls) (d : Due) : Falls := if d.ower = name then aput acc ⟨fresh, d.owed, d.page⟩ ((aget acc d).getD []) else acc
theorem part_some {name fresh : Str} {d : Due} : ∀ (l : List Due) (acc : Falls), (aget acc d).isSome = true → (aget (l.foldl (partStep name fresh) acc) d).isSome = true
  | [], _, h => h
  | e :: l, acc, h => by
    rw [List.foldl_cons]
    refine part_some l _ ?_
    unfold partStep
    split
    · rw [aget_put]
      split
      · rfl
      · exact h
    · exact h
theorem part_len {name fresh : Str} : ∀ (l : List Due) (acc : Falls), (l.foldl (partStep name fresh) acc).length ≤ acc.length + l.length
  | [], _ => Nat.le_refl _
  | e :: l, acc => by
    rw [List.foldl_cons, List.length_cons]
    have h1 := part_len (name := name) (fresh := fresh) l (partStep name fresh acc e)
    have h2 : (partStep name fresh acc e).length ≤ acc.length + 1 := by
      unfold partStep
      split
      · exact aput_length _ _ _
      · omega
    omega
theorem cutF1 (a b c : NestedKey) : cutK [a, b, c] (some 1) none = [b, c] := by
  simp [cutK, HT.sIx]
theorem mem_isSome {f : Falls} {i : Nat} {d : Due} (h : (f.map (·.1))[i]? = some d) : (aget f d).isSome = true := aget_some.mpr (List.mem_of_getElem? h)
def spPart (P : Program) (w : World) (CW : Addr) : Sp := fun vs H Q _ => ∃ a own g lost s marks n x y, vs = [.ref (WA.p a), .str x, .str y] ∧ WC P w CW H a own g lost s marks n ∧ s.falls.length ≤ 40000 ∧ ∀ H' own', Step own H own' H' → WC P w CW H' a own' g lost { s with falls := partF s.falls x y } marks n → Q .non H'
theorem sc_Walk_part : FnScope ["self", "name", "fresh", "due"] ["self", "name", "fresh"] (defScope s_Walk_part) := ⟨rfl, rfl, rfl, by decide +kernel, rfl, by decide +kernel, by decide +kernel⟩
theorem ok_part (T : Txt K mg CH CW aK aA aG) (D : Mat K CW "part" "Walk.part" s_Walk_part ["self", "name", "fresh"]) : MOK P w K mg base 1 CW "part" ["self", "name", "fresh"] (spPart P w CW) := by
  refine mok_mk D sc_Walk_part (fun vs H Q E h => ?_) (fun f cdv A outer s H vs Q E hr h => ?_)
  · obtain ⟨a, own, g, lost, s, marks, n, x, y, rfl, _⟩ := h
    rfl
  · obtain ⟨a, own, g, lost, s, marks, n, x, y, rfl, c, hz, q⟩ := h
    have hu := hr.units
    have hu0 := hr.units0
    have hu1 : _ + 1 < cLine := Nat.lt_of_le_of_lt (Nat.add_le_add_left (by decide : 1 ≤ 64) _) hu
    refine ⟨_, (pss_one (ps_for PassesOwn.never rfl (pi_list (pe_callTy (call_list_dN rfl) (by rfl) T.list b_list (pa_cons (pe_fld (pv 0) (by rfl)) pa_nil))) (pg_name (i := 3) sc_Walk_part.nd rfl (Or.inl rfl)) (pss_one (ps_if (pt_cmpR op_eq (pe_ix ix_tup (pv 3) pe_int (fun _ _ => rfl)) (pv 1) (nomark _)) (pss_cons (ps_nput hu (pe_fld (pv 0) (by rfl)) (pe_op op_catA (pe_tup (pa_cons (pv 2) pa_nil)) (pe_slice sl_tupA (pv 3) (po_some pe_int) po_none)) (pe_nget hu (pe_fld (pv 0) (by rfl)) (pv 3) (fun _ _ => rfl)) rfl) (pss_one (ps_fld (pv 0) (pe_op op_add (pe_fld (pv 0) (by rfl)) pe_int) rfl))) pss_nil)))), ?_⟩
    refine walk_for c T rfl (fun i => ((s.falls.map (·.1)).take i).foldl (partStep x y) s.falls) rfl (fun σ => ∃ z, σ = [some (.ref a.p), some (.str x), some (.str y), z]) ⟨_, rfl⟩ ?_ ?_
    · rintro H1 s1 i d u σ' H' hd fu ⟨z, rfl⟩ ⟨own', st, c1⟩
      have e1 : ∀ {α : Type} (f : α → Due → α) (x : α), _ := fun f x => keys_take hd f x
      have fu0 := fu
      have fu : Fz H' u (.tup [.text d.ower, .text d.owed, d.page.key]) := fu
      refine s_if (et_test (ev_eqS (ev_of_str (ef_ix (ef_var (i := 3) rfl fu) ev_c (atI_of (n := 0) rfl))) (ev_var rfl))) (fun hb H2 s2 => ?_) (fun hb H2 s2 => ?_)
      · have hb : d.ower = x := of_decide_eq_true hb
        have c2 := c1.sm s2
        obtain ⟨kv, dw, r, hl⟩ := df_get c2
        obtain ⟨l, el⟩ := Option.isSome_iff_exists.mp (part_some (name := x) (fresh := y) ((s.falls.map (·.1)).take i) s.falls (mem_isSome hd))
        obtain ⟨vl, hvl, fl⟩ := DR.some (fun _ _ => Due.key_inj) r el
        have len : kv.length < 100000 := by
          rw [hl]
          have := part_len (name := x) (fresh := y) ((s.falls.map (·.1)).take i) s.falls
          have h2 : ((s.falls.map (·.1)).take i).length ≤ s.falls.length := by rw [List.length_take, List.length_map]; omega
          show (((s.falls.map (·.1)).take i).foldl (partStep x y) s.falls).length < 100000
          omega
        refine seqi (s_nput (k := Due.key ⟨y, d.owed, d.page⟩) (R := fun v H => Fz H v (.tup (ik l))) kp_fz ((ev_nget (c2.fFalls T rfl) (ef_var (i := 3) rfl (fu0.sm s2)) dw (IsKy.due d) hvl).imp fun v H3 s3 e => by subst e; exact fl.sm s3) (c2.fFalls T rfl) ?_ dw (IsKy.due _) len fun v' H3 H4 s3 fv dw4 ne => ?_)
        · have g := ef_cat (K := K) (ta := tTup (tCons (tVar 2) tNil)) (ef_tup (σ := [some (.ref a.p), some (.str x), some (.str y), some u]) (ks := [.text y]) (ea_cons (ef_of_str (ev_var (i := 2) rfl)) ea_nil)) (ef_sl (K := K) (ef_var (i := 3) rfl (fu.sm s2)) (eo_some (ev_c (v := .int 1))) eo_none) (by rw [cutF1]; simp)
          rw [cutF1] at g
          exact g
        · obtain ⟨c4, st4⟩ := (c2.sm s3).setF dw4 ne (DR.put (fun _ _ => Due.key_inj) (r.imp fun _ _ q => q.sm s3) (k := ⟨y, d.owed, d.page⟩) (a := l) fv)
          obtain ⟨n1, n2, n3, n4, ho⟩ := c4.o
          refine s_fldV (P := fun v _ => v = .int (n2 + 1)) kp_ev (ev_I0 (g := fun i j => .int (i + j)) (ev_fld (ev_var rfl) ho T.clW (T.noW _ (by simp)) (wf_copied _ _ _ _ _ _ _ _ _ _ _ _ _)) ev_c) (ev_var rfl) ho T.clW (T.noW _ (by simp)) (by show (13 : Nat) < 900; decide) fun v5 H5 s5 e5 => ?_
          subst e5
          rw [wf_put2]
          obtain ⟨c6, st6⟩ := (c4.sm s5).setN (m1 := n1) (m2 := n2 + 1) (m3 := n3) (m4 := n4)
          refine ⟨⟨_, rfl⟩, own', (((st.trans (.of_same s2)).trans (.of_same s3)).trans st4).trans ((Step.of_same s5).trans st6), ?_⟩
          rw [e1]
          show WC P w CW _ a own' g lost { s with falls := partStep x y _ d } marks n
          unfold partStep
          rw [if_pos hb]
          unfold partStep at el
          rw [el]
          exact c6
      · have hb : d.ower ≠ x := of_decide_eq_false hb
        refine ⟨⟨_, rfl⟩, own', st.trans (.of_same s2), ?_⟩
        rw [e1]
        show WC P w CW _ a own' g lost { s with falls := partStep x y _ d } marks n
        rw [show partStep x y (((s.falls.map (·.1)).take i).foldl (partStep x y) s.falls) d = ((s.falls.map (·.1)).take i).foldl (partStep x y) s.falls from if_neg hb]
        exact c1.sm s2
    · rintro σ' H' _ ⟨own', st, c1⟩
      have e : (s.falls.map (·.1)).take s.falls.length = s.falls.map (·.1) := List.take_of_length_le (by rw [List.length_map]; exact Nat.le_refl _)
      rw [e] at c1
      exact q H' own' st c1
theorem q_unl2 {K : PySem.W.Frag} {σ : St} {H : Hp} {te : TE} {D : Ends} {tz : TS} {k1 k2 : NestedKey} {j1 j2 : Nat} (h : EvP te σ H fun v H2 => LN H2 v [k1, k2]) (k : ∀ v1 v2 H1, Same H H1 → Fz H1 v1 k1 → Fz H1 v2 k2 → tz D ((σ.set j1 (some v1)).set j2 (some v2)) H1) :
    tSeq (tAsg te (gUnl K 2 (gCons (gName j1) (gCons (gName j2) gNil)))) tz D σ H := by
  refine h H (.refl _) _ fun v H1 s ⟨L, zs, ev, hL, fz⟩ => ?_
  obtain ⟨w1, w2, rfl, g1, g2⟩ := fz.two_inv
  exact ⟨L, _, ev, sqL_of hL, rfl, _, _, rfl, _, _, rfl, rfl, k w1 w2 H1 s g1 g2⟩
theorem join_some {name gone : Str} {d e : Due} {acc : Falls} (h : (aget acc d).isSome = true) (ne : d ≠ e) : (aget (joinStep name gone acc e) d).isSome = true := by
  have h1 : (aget (adrop acc e) d).isSome = true := by
    rw [aget_drop, if_neg ne]
    exact h
  have put : ∀ (f : Falls) (k : Due) (l : List Int), (aget f d).isSome = true → (aget (aput f k l) d).isSome = true := by
    intro f k l h
    rw [aget_put]
    split
    · rfl
    · exact h
  unfold joinStep
  split
  · split
    · exact h1
    · unfold layF
      split
      · exact put _ _ _ h1
      · split
        · exact h1
        · exact put _ _ _ h1
  · exact h
theorem join_some_fold {name gone : Str} {d : Due} : ∀ (l : List Due) (acc : Falls), (aget acc d).isSome = true → d ∉ l → (aget (l.foldl (joinStep name gone) acc) d).isSome = true
  | [], _, h, _ => h
  | e :: l, acc, h, hd => by
    rw [List.foldl_cons]
    rw [List.mem_cons, not_or] at hd
    exact join_some_fold l _ (join_some h hd.1) hd.2
theorem lay_len (f : Falls) (d : Due) (l : List Int) : (layF f d l).length ≤ f.length + 1 := by
  unfold layF
  split
  · exact aput_length _ _ _
  · split
    · omega
    · exact aput_length _ _ _
theorem join_len {name gone : Str} : ∀ (l : List Due) (acc : Falls), (l.foldl (joinStep name gone) acc).length ≤ acc.length + l.length
  | [], _ => Nat.le_refl _
  | e :: l, acc => by
    rw [List.foldl_cons, List.length_cons]
    have h1 := join_len (name := name) (gone := gone) l (joinStep name gone acc e)
    have h2 : (joinStep name gone acc e).length ≤ acc.length + 1 := by
      have h3 := adrop_length acc e
      unfold joinStep
      split
      · split
        · omega
        · exact Nat.le_trans (lay_len _ _ _) (by omega)
      · omega
    omega
theorem nodup_take {α : Type} {l : List α} (h : l.Nodup) {i : Nat} {x : α} (e : l[i]? = some x) : x ∉ l.take i := by
  intro z
  obtain ⟨m, hm, e2⟩ := List.mem_iff_getElem.mp z
  have hm' : m < i := by
    rw [List.length_take] at hm
    omega
  have hml : m < l.length := by
    rw [List.length_take] at hm
    omega
  rw [List.getElem_take] at e2
  have e1 : l[m]? = some x := by rw [List.getElem?_eq_getElem hml, e2]
  have := (List.getElem?_inj hml h).mp (e1.trans e.symm)
  omega
def spJoin (P : Program) (w : World) (CW : Addr) : Sp := fun vs H Q _ => ∃ a own g lost s marks n x y, vs = [.ref (WA.p a), .str x, .str y] ∧ WC P w CW H a own g lost s marks n ∧ s.falls.length ≤ 40000 ∧ (s.falls.map (·.1)).Nodup ∧ ∀ H' own', Step own H own' H' → WC P w CW H' a own' g lost { s with falls := joinF s.falls x y } marks n → Q .non H'
theorem sc_Walk_join : FnScope ["self", "name", "gone", "due", "falls", "ower", "owed", "one"] ["self", "name", "gone"] (defScope s_Walk_join) := ⟨rfl, rfl, rfl, by decide +kernel, rfl, by decide +kernel, by decide +kernel⟩
theorem ok_join (T : Txt K mg CH CW aK aA aG) (D : Mat K CW "join" "Walk.join" s_Walk_join ["self", "name", "gone"]) (M_lay : MOK P w K mg base 4 CW "lay" ["self", "due", "falls"] (spLay P w CW)) : MOK P w K mg base 6 CW "join" ["self", "name", "gone"] (spJoin P w CW) := by
  refine mok_mk D sc_Walk_join (fun vs H Q E h => ?_) (fun f cdv A outer s H vs Q E hr h => ?_)
  · obtain ⟨a, own, g, lost, s, marks, n, x, y, rfl, _⟩ := h
    rfl
  · obtain ⟨a, own, g, lost, s, marks, n, x, y, rfl, c, hz, nd, q⟩ := h
    have hu := hr.units
    have hu0 := hr.units0
    have hu1 : _ + 1 < cLine := Nat.lt_of_le_of_lt (Nat.add_le_add_left (by decide : 1 ≤ 64) _) hu
    refine ⟨_, (pss_one (ps_for PassesOwn.never rfl (pi_list (pe_callTy (call_list_dN rfl) (by rfl) T.list b_list (pa_cons (pe_fld (pv 0) (by rfl)) pa_nil))) (pg_name (i := 3) sc_Walk_join.nd rfl (Or.inl rfl)) (pss_one (ps_if (pt_cmpR (op_inK hu) (pv 2) (pe_slice sl_tupA (pv 3) po_none (po_some pe_int)) (by with_unfolding_all rfl)) (pss_cons (ps_set (i := 4) sc_Walk_join.nd rfl (Or.inl rfl) (pe_npop hu (pe_fld (pv 0) (by rfl)) (pv 3) ⟨rfl, rfl, rfl, rfl⟩)) (pss_cons (ps_asg (pe_lc (own := [("one", 7)]) rfl sc_Walk_join.nd (pi_tup (pe_slice sl_tupA (pv 3) po_none (po_some pe_int))) (blkOk_by (own := [("one", 7)]) (N := ["self", "name", "gone", "due", "falls", "ower", "owed", "one"]) (sc := defScope s_Walk_join) (by decide +kernel)) (fun _ _ _ _ _ => (pg_name (i := 7) sc_Walk_join.nd rfl (Or.inl rfl))) (fun _ _ _ _ _ => pts_nil) (fun _ _ _ _ _ => (pe_ifExp (pt_cmpR op_eq (pv 7) (pv 2) (nomark _)) (pv 1) (pv 7)))) (pg_unl rfl (pgs_cons (pg_name (i := 5) sc_Walk_join.nd rfl (Or.inl rfl)) (pgs_cons (pg_name (i := 6) sc_Walk_join.nd rfl (Or.inl rfl)) pgs_nil)))) (pss_one (ps_if (pt_cmpR op_eq (pv 5) (pv 6) (nomark _)) (pss_one (ps_fld (pv 0) (pe_op op_add (pe_fld (pv 0) (by rfl)) pe_int) rfl)) (pss_one (ps_expr (px_meth T.clW M_lay (hr.mono (by decide)) (pv 0) (pa_cons (pe_tup (pa_cons (pv 5) (pa_cons (pv 6) (pa_cons (pe_ix ix_tup (pv 3) pe_int (fun _ _ => rfl)) pa_nil)))) (pa_cons (pv 4) pa_nil))))))))) pss_nil)))), ?_⟩
    refine walk_for c T rfl (fun i => ((s.falls.map (·.1)).take i).foldl (joinStep x y) s.falls) rfl (fun σ => ∃ z3 z4 z5 z6 z7, σ = [some (.ref a.p), some (.str x), some (.str y), z3, z4, z5, z6, z7]) ⟨_, _, _, _, _, rfl⟩ ?_ ?_
    · rintro H1 s1 i d u σ' H' hd fu ⟨z3, z4, z5, z6, z7, rfl⟩ ⟨own', st, c1⟩
      have e1 : ∀ {α : Type} (f : α → Due → α) (x : α), _ := fun f x => keys_take hd f x
      have fu0 := fu
      have fu : Fz H' u (.tup [.text d.ower, .text d.owed, d.page.key]) := fu
      have two : ∀ {H2 : Hp} {σ : St}, Same H' H2 → σ[3]? = some (some u) → EvF (tSl (rSlA K) (tVar 3) tNoPart (tPart (tC (.int 2)))) σ H2 (.tup [.text d.ower, .text d.owed]) := fun s2 h3 => (ef_sl (ef_var h3 (fu.sm s2)) eo_none (eo_some ev_c)).ofF (by rw [cutT2])
      refine s_if (et_test (ev_inT (ef_of_str (ev_var (i := 2) rfl)) (by simp [NestedKey.depth]) (two (.refl _) rfl))) (fun hb H2 s2 => ?_) (fun hb H2 s2 => ?_)
      · have hb : y = d.ower ∨ y = d.owed := by simpa using hb
        have c2 := c1.sm s2
        obtain ⟨kv, dw, r, hl⟩ := df_get c2
        obtain ⟨l, el⟩ := Option.isSome_iff_exists.mp (join_some_fold (name := x) (gone := y) ((s.falls.map (·.1)).take i) s.falls (mem_isSome hd) (nodup_take nd hd))
        obtain ⟨vl, hvl, fl⟩ := DR.some (fun _ _ => Due.key_inj) r el
        have len : (((s.falls.map (·.1)).take i).foldl (joinStep x y) s.falls).length ≤ 80000 := by
          have := join_len (name := x) (gone := y) ((s.falls.map (·.1)).take i) s.falls
          have h2 : ((s.falls.map (·.1)).take i).length ≤ s.falls.length := by rw [List.length_take, List.length_map]; omega
          omega
        refine seqi (r_npop (k := d.key) (c2.fFalls T rfl) (ef_var (i := 3) rfl (fu0.sm s2)) dw (IsKy.due d) hvl fun H3 H4 s3 dw4 ne => ?_)
        obtain ⟨c4, st4⟩ := (c2.sm s3).setF dw4 ne (DR.drop (fun _ _ => Due.key_inj) (r.imp fun _ _ q => q.sm s3) d)
        have st5 := ((st.trans (.of_same s2)).trans (.of_same s3)).trans st4
        have tk4 : TK H' H4 := ((TK.of_same s2).trans (.of_same s3)).trans st4.tk
        have fu4 := fu.tk tk4
        have fl4 := (fl.sm s3).tk st4.tk
        have two4 : EvF (tSl (rSlA K) (tVar 3) tNoPart (tPart (tC (.int 2)))) [some (.ref a.p), some (.str x), some (.str y), some u, some vl, z5, z6, z7] H4 (.tup [.text d.ower, .text d.owed]) := (ef_sl (ef_var rfl fu4) eo_none (eo_some ev_c)).ofF (by rw [cutT2])
        dsimp only
        have lc := el_lcT (K := K) (tt := tYes) (te := tIf (tTest (tOp rEq (tVar 7) (tVar 2))) (tVar 1) (tVar 7)) (j := 7) (vs := [7]) (fun _ => true) (fun k => if k = .text y then .text x else k) two4 (by simp) (fun _ => rfl) (fun _ _ _ _ _ _ => et_yes) (fun z k H5 hk s5 fz _ => by
          have hk : k = .text d.ower ∨ k = .text d.owed := by simpa using hk
          obtain ⟨b, rfl⟩ : ∃ b, k = NestedKey.text b := by rcases hk with h | h <;> exact ⟨_, h⟩
          obtain rfl := fz.str_inv
          refine ep_if (et_test (ev_eqS (a := b) (b := y) (ev_var (i := 7) rfl) (ev_var (i := 2) rfl))) (fun e => ?_) (fun e => ?_)
          · have e : b = y := of_decide_eq_true e
            rw [if_pos (by rw [e])]
            exact ef_of_str (ev_var (i := 1) rfl)
          · have e : b ≠ y := of_decide_eq_false e
            rw [if_neg (by simpa using e)]
            exact ef_of_str (ev_var (i := 7) rfl))
        have er : ∀ b : Str, (if NestedKey.text b = .text y then NestedKey.text x else .text b) = .text (ren x y b) := fun b => by
          unfold ren
          by_cases h : b = y <;> simp [h]
        have lc2 := lc.imp (R := fun v H2 => LN H2 v [.text (ren x y d.ower), .text (ren x y d.owed)]) fun v H2 _ h => by
          have h := h.ln
          have h : LN H2 v [if NestedKey.text d.ower = .text y then NestedKey.text x else .text d.ower, if NestedKey.text d.owed = .text y then NestedKey.text x else .text d.owed] := h
          rw [er, er] at h
          exact h
        refine q_unl2 lc2 fun w1 w2 H5 s5 g1 g2 => ?_
        obtain rfl := g1.str_inv
        obtain rfl := g2.str_inv
        have fin : ∀ {F2 : Falls} {H6 : Hp} {own6 : Addr → Prop}, Step own' H5 own6 H6 → WC P w CW H6 a own6 g lost { s with falls := F2 } marks n → F2 = joinStep x y (((s.falls.map (·.1)).take i).foldl (joinStep x y) s.falls) d → WInv P w CW H1 a own g lost s marks n (((s.falls.map (·.1)).take (i + 1)).foldl (joinStep x y) s.falls) H6 := fun st6 c6 e => by
          refine ⟨_, (st5.trans (.of_same s5)).trans st6, ?_⟩
          rw [e1]
          subst e
          exact c6
        have c5 := c4.sm s5
        refine s_if (et_test (ev_eqS (ev_var (i := 5) rfl) (ev_var (i := 6) rfl))) (fun he H6 s6 => ?_) (fun he H6 s6 => ?_)
        · have he : ren x y d.ower = ren x y d.owed := of_decide_eq_true he
          have c6 := c5.sm s6
          obtain ⟨n1, n2, n3, n4, ho⟩ := c6.o
          refine s_fldV (P := fun v _ => v = .int (n3 + 1)) kp_ev (ev_I0 (g := fun i j => .int (i + j)) (ev_fld (ev_var rfl) ho T.clW (T.noW _ (by simp)) (wf_struck _ _ _ _ _ _ _ _ _ _ _ _ _)) ev_c) (ev_var rfl) ho T.clW (T.noW _ (by simp)) (by show (13 : Nat) < 900; decide) fun v7 H7 s7 e7 => ?_
          subst e7
          rw [wf_put3]
          obtain ⟨c8, st8⟩ := (c6.sm s7).setN (m1 := n1) (m2 := n2) (m3 := n3 + 1) (m4 := n4)
          exact ⟨⟨_, _, _, _, _, rfl⟩, fin ((Step.of_same (s6.trans s7)).trans st8) c8 (by unfold joinStep; rw [if_pos hb, if_pos he])⟩
        · have he : ren x y d.ower ≠ ren x y d.owed := of_decide_eq_false he
          have c6 := c5.sm s6
          obtain ⟨n1, n2, n3, n4, ho⟩ := c6.o
          refine m_call (A := fun vs H2 => FzA H2 vs [Due.key ⟨ren x y d.ower, ren x y d.owed, d.page⟩, .tup (ik l)]) (ev_var rfl) ho (wf_no _ _ _ _ _ _ _ _ _ _ _ _ _ _ (by simp)) (ea_cons (ef_tup (ks := [.text (ren x y d.ower), .text (ren x y d.owed), d.page.key]) (ea_cons (ef_of_str (ev_var (i := 5) rfl)) (ea_cons (ef_of_str (ev_var (i := 6) rfl)) (ea_cons (ef_ix (ef_var (i := 3) rfl ((fu4.sm s5).sm s6)) ev_c (atI_of (n := 2) rfl)) ea_nil)))) (ea_cons (ef_var (i := 4) rfl ((fl4.sm s5).sm s6)) ea_nil)) fun vs H7 s7 fa => ?_
          obtain ⟨w3, w4, rfl, g3, g4⟩ := fa.two_inv
          refine ⟨a, own', g, lost, _, marks, n, w3, w4, _, l, rfl, c6.sm s7, g3, g4, ?_, fun H8 own8 st8 c8 => ?_⟩
          · exact Nat.le_trans (adrop_length _ _) (Nat.le_trans len (by decide))
          · refine ⟨⟨_, _, _, _, _, rfl⟩, fin ((Step.of_same (s6.trans s7)).trans st8) c8 ?_⟩
            unfold joinStep at el ⊢
            rw [if_pos hb, if_neg he, el] <;> rfl
      · have hb : ¬ (y = d.ower ∨ y = d.owed) := by simpa using hb
        refine ⟨⟨_, _, _, _, _, rfl⟩, own', st.trans (.of_same s2), ?_⟩
        rw [e1]
        show WC P w CW _ a own' g lost { s with falls := joinStep x y _ d } marks n
        rw [show joinStep x y (((s.falls.map (·.1)).take i).foldl (joinStep x y) s.falls) d = ((s.falls.map (·.1)).take i).foldl (joinStep x y) s.falls from if_neg hb]
        exact c1.sm s2
    · rintro σ' H' _ ⟨own', st, c1⟩
      have e : (s.falls.map (·.1)).take s.falls.length = s.falls.map (·.1) := List.take_of_length_le (by rw [List.length_map]; exact Nat.le_refl _)
      rw [e] at c1
      exact q H' own' st c1
end
end K34
namespace K34
open PySem PySem.Spec L2

section
variable {P : Program} {w : World} {K : PySem.W.Frag} {mg : Str → Option Value} {base : Heap} {CH CW aK aA aG : Addr} {H H' : Hp} {a : WA} {own : Addr → Prop} {g : WG} {lost : List Page} {s : WS} {marks : List (Page × NestedKey)} {n : Nat} {σ : St} {tg : TG} {tu : TS} {D : Ends}
theorem drop_fold (l : List Due) (f : Falls) (d : Due) : aget (l.foldl adrop f) d = if d ∈ l then none else aget f d := by
  induction l generalizing f with
  | nil => simp
  | cons e l ih =>
    rw [List.foldl_cons, ih, aget_drop]
    by_cases h : d ∈ l
    · simp [h]
    · by_cases h2 : d = e
      · simp [h2]
      · simp [h, h2]
theorem drop_fold_len (l : List Due) (f : Falls) : (l.foldl adrop f).length ≤ f.length := by
  induction l generalizing f with
  | nil => exact Nat.le_refl _
  | cons e l ih =>
    rw [List.foldl_cons]
    exact Nat.le_trans (ih _) (adrop_length _ _)
theorem kp_lf {ks : List NestedKey} : Keeps fun v H => LF K H v ks := fun _ _ _ s h => h.sm s
theorem sort_in (m sd : Bool) : decide (NestedKey.text (bS m) ∈ [NestedKey.text "visit", NestedKey.text (bS sd)]) = (m || !sd) := by
  have h : bS false ≠ bS true := fun z => by cases bS_inj _ _ z
  have e : ("visit" : Str) = bS true := rfl
  rw [e]
  cases m
  · cases sd
    · simp
    · simp [h]
  · simp
def spGo (P : Program) (w : World) (CW : Addr) : Sp := fun vs H Q _ => ∃ a own g lost s marks n v vv d x y, vs = [.ref (WA.p a), v] ∧ WC P w CW H a own g lost s marks n ∧ n < 900 ∧ Fz H v (Page.key (.going vv d x y)) ∧ (aget s.homes y).isSome = true ∧ (∀ e ∈ s.falls.map (·.1), (aget s.sorts e.page).isSome = true) ∧ (s.falls.map (·.1)).Nodup ∧ s.falls.length ≤ 40000 ∧
  ∀ v' H' own', Step own H own' H' → WC P w CW H' a own' g lost (s.go vv d x y).1 marks (n + 1) → Fz H' v' (s.go vv d x y).2 → Q v' H'
theorem sc_Walk_go : FnScope ["self", "page", "kind", "day", "one", "other", "sort", "paid", "due"] ["self", "page"] (defScope s_Walk_go) := ⟨rfl, rfl, rfl, by decide +kernel, rfl, by decide +kernel, by decide +kernel⟩
theorem ok_go (T : Txt K mg CH CW aK aA aG) (D : Mat K CW "go" "Walk.go" s_Walk_go ["self", "page"]) (M_is_met : MOK P w K mg base 4 CW "is_met" ["self", "page"] (spIsMet P w CW)) : MOK P w K mg base 6 CW "go" ["self", "page"] (spGo P w CW) := by
  refine mok_mk D sc_Walk_go (fun vs H Q E h => ?_) (fun f cdv A outer s H vs Q E hr h => ?_)
  · obtain ⟨a, own, g, lost, s, marks, n, v, vv, d, x, y, rfl, _⟩ := h
    rfl
  · obtain ⟨a, own, g, lost, s, marks, n, v, vv, d, x, y, rfl, c, hn, f1, hy, hso, nd, hz, q⟩ := h
    have hu := hr.units
    have hu0 := hr.units0
    have hu1 : _ + 1 < cLine := Nat.lt_of_le_of_lt (Nat.add_le_add_left (by decide : 1 ≤ 64) _) hu
    refine ⟨_, (pss_cons (ps_asg (pv 1) (pg_tup rfl (pgs_cons (pg_name (i := 2) sc_Walk_go.nd rfl (Or.inl rfl)) (pgs_cons (pg_name (i := 3) sc_Walk_go.nd rfl (Or.inl rfl)) (pgs_cons (pg_name (i := 4) sc_Walk_go.nd rfl (Or.inr rfl)) (pgs_cons (pg_name (i := 5) sc_Walk_go.nd rfl (Or.inr rfl)) pgs_nil)))))) (pss_cons (ps_set (i := 6) sc_Walk_go.nd rfl (Or.inr rfl) (pe_ifExp (pt_val (px_meth T.clW M_is_met (hr.mono (by decide)) (pv 0) (pa_cons (pv 1) pa_nil))) pe_str pe_str)) (pss_cons (ps_lock (ps_setLc (i := 7) (own := [("due", 8)]) rfl sc_Walk_go.nd rfl rfl (sw_true rfl rfl rfl (by decide +kernel)) (pi_nkeys (pe_fld (pv 0) (by rfl))) (blkOk_by (own := [("due", 8)]) (N := ["self", "page", "kind", "day", "one", "other", "sort", "paid", "due"]) (sc := defScope s_Walk_go) (by decide +kernel)) (fun _ _ _ _ _ => (pg_name (i := 8) sc_Walk_go.nd rfl (Or.inl rfl))) (fun _ _ _ _ _ => (pts_one (pw_and (pt_cmpR (op_eqT hu) (pe_slice (r := rSlA K) sl_tupA (pv 8) po_none (po_some pe_int)) (pe_tup (pa_cons (pv 4) (pa_cons (pv 5) pa_nil))) (nomark _)) (pw_and1 (pt_cmpR (r := rInK K) (op_inK hu) (pv 6) (pe_tup (pa_cons pe_str (pa_cons (show PE _ _ (tNGet P w _ _) from (pe_nget hu (show PE _ _ (tFld K _ _) from (pe_fld (pv 0) (by rfl))) (pe_ix (r := rIxT K) ix_tup (pv 8) pe_int (fun _ _ => rfl)) (fun _ _ => rfl))) pa_nil))) (by with_unfolding_all rfl)))).pt)) (fun _ _ _ _ _ => (pv 8)))) (pss_cons (ps_if (pt_cmpR (op_eqN hu) (pv 7) (pe_lst pa_nil) (nomark _)) (pss_cons (ps_nput hu (pe_fld (pv 0) (by rfl)) (pv 1) (pv 6) rfl) (pss_cons (ps_nput hu (pe_fld (pv 0) (by rfl)) (pe_tup (pa_cons (pv 5) (pa_cons (pv 4) (pa_cons (pv 1) pa_nil)))) (pe_tup pa_nil) rfl) (pss_cons (ps_fld (pv 0) (pe_op op_add (pe_fld (pv 0) (by rfl)) pe_int) rfl) (pss_one (ps_ret (pe_tup (pa_cons pe_str pa_nil))))))) pss_nil) (pss_cons (ps_for PassesOwn.never rfl (pi_list (pv 7)) (pg_name (i := 8) sc_Walk_go.nd rfl (Or.inl rfl)) (pss_one (ps_expr (pe_npop hu (pe_fld (pv 0) (by rfl)) (pv 8) ⟨rfl, rfl, rfl, rfl⟩)))) (pss_cons (ps_expr (pe_bm PySem.F.plainAttrs_list PySem.F.slot_list_append PySem.F.type_list_append mt_append (pe_fld (pv 0) (by rfl)) (pa_cons (pe_tup (pa_cons (pv 1) (pa_cons (pv 7) pa_nil))) pa_nil))) (pss_one (ps_ret (pe_tup (pa_cons pe_str (pa_cons (pe_callB call_lenK (by rfl) T.len b_len (pa_cons (pv 7) pa_nil)) pa_nil))))))))))), ?_⟩
    refine q_unp4 (k1 := .text (bS vv)) (k2 := .num d) (k3 := .text x) (k4 := .text y) (i := 1) rfl f1 fun v1 v2 v3 v4 g1 g2 g3 g4 => ?_
    obtain rfl := g1.str_inv
    obtain rfl := g2.int_inv
    obtain rfl := g3.str_inv
    obtain rfl := g4.str_inv
    obtain ⟨n1, n2, n3, n4, ho⟩ := c.o
    refine q_asg (P := fun u _ => u = .str (bS (s.isMet vv d x y))) (ep_if (b := s.isMet vv d x y) (et_B fun H1 s1 Q1 q1 => m_call (A := fun vs H2 => FzA H2 vs [Page.key (.going vv d x y)]) (ev_var rfl) (s1 _ _ ho) (wf_no _ _ _ _ _ _ _ _ _ _ _ _ _ _ (by simp)) (ea_cons (ef_var rfl (f1.sm s1)) ea_nil) fun vs H2 s2 fa => ?_) (fun hb => by rw [hb]; exact ev_c) (fun hb => by rw [hb]; exact ev_c)) fun v6 H1 s1 e6 => ?_
    · obtain ⟨u, rfl, fu⟩ := fa.one_inv
      exact ⟨a, own, g, lost, s, marks, n, u, vv, d, x, y, rfl, c.sm (s1.trans s2), by omega, fu, hy, fun H3 s3 => q1 _ H3 (s2.trans s3) rfl⟩
    subst e6
    have c1 := c.sm s1
    obtain ⟨kv, dw, r⟩ := c1.df
    obtain ⟨⟨_, k1⟩, _, _, _, ⟨_, k5⟩, ⟨_, k6⟩, _, _⟩ := c1.kd
    have npf : a.p ≠ a.fA := ne_of k1 k6 (fun z => by cases z)
    have ho1 := s1 _ _ ho
    obtain ⟨ks, ds, rs⟩ := c1.ds
    have hlk := el_lock (P := P) (w := w) (σ := [some (.ref a.p), some v, some (.str (bS vv)), some (.int d), some (.str x), some (.str y), some (.str (bS (s.isMet vv d x y))), none, none]) (vs := [8]) (j := 8) (td := tFld K (tVar 0) "falls") (tt := tAnd (tTest (tOp rEqT (tSl (rSlA K) (tVar 8) tNoPart (tPart (tC (.int 2)))) (tTup (tCons (tVar 4) (tCons (tVar 5) tNil))))) (tTest (tOp (rInK K) (tVar 6) (tTup (tCons (tC (.str "visit")) (tCons (tNGet P w (tFld K (tVar 0) "sorts") (tOp (rIxT K) (tVar 8) (tC (.int 2)))) tNil)))))) (te := tVar 8)
      (fun k => (decide ((dueOf k).ower = x) && decide ((dueOf k).owed = y)) && (s.isMet vv d x y || !((aget s.sorts (dueOf k).page).getD false))) id dw (by rw [r.length]; omega) (fun _ => rfl)
      (fun Hl ne tk => ev_fld (ev_var rfl) (by rw [ne _ npf]; exact ho1) T.clW (T.noW _ (by simp)) (wf_falls _ _ _ _ _ _ _ _ _ _ _ _ _))
      (fun z k Hl H2 ne tk hk s2 fz => by
        rw [r.keysDue] at hk
        obtain ⟨du, hdu, rfl⟩ := List.mem_map.mp hk
        rw [dueOf_key]
        have fz0 : Fz H2 z (.tup [.text du.ower, .text du.owed, du.page.key]) := fz
        obtain ⟨sd, esd⟩ := Option.isSome_iff_exists.mp (hso du hdu)
        obtain ⟨vs, hvs, evs⟩ := rs.some (fun _ _ => Page.key_inj) esd
        have dsl := (ds.keep (ne _ c1.nsf) tk).sm s2
        have hol : H2 a.p = some (.ins CW a.dx (wf a.vB a.vT a.lA a.hA a.mA a.sA a.fA a.kA a.aA n1 n2 n3 n4)) := s2 _ _ (by rw [ne _ npf]; exact ho1)
        have t1 := et_test (ev_eqT (σ := (wipe [some (.ref a.p), some v, some (.str (bS vv)), some (.int d), some (.str x), some (.str y), some (.str (bS (s.isMet vv d x y))), none, none] [8]).set 8 (some z)) ((ef_sl (K := K) (ef_var (i := 8) rfl fz0) eo_none (eo_some (ev_c (v := .int 2)))).ofF (by rw [cutT2])) (ef_tup (ks := [.text x, .text y]) (ea_cons (ef_of_str (ev_var (i := 4) rfl)) (ea_cons (ef_of_str (ev_var (i := 5) rfl)) ea_nil))) (by simp [NestedKey.depth, NestedKey.depthAll]))
        have t2 := et_test (ev_inT (K := K) (σ := (wipe [some (.ref a.p), some v, some (.str (bS vv)), some (.int d), some (.str x), some (.str y), some (.str (bS (s.isMet vv d x y))), none, none] [8]).set 8 (some z)) (H := H2) (ef_of_str (ev_var (i := 6) rfl)) (by simp [NestedKey.depth]) (ef_tup (ks := [.text "visit", .text (bS sd)]) (ea_cons ef_str (ea_cons ((ev_nget (P := P) (w := w) (ev_fld (K := K) (ev_var (i := 0) rfl) hol T.clW (T.noW "sorts" (by simp)) (wf_sorts _ _ _ _ _ _ _ _ _ _ _ _ _)) (ef_ix (K := K) (ef_var (i := 8) rfl fz0) (ev_c (v := .int 2)) (atI_of (n := 2) rfl)) dsl (IsKy.page _) hvs).imp fun u H3 s3 e => by subst e; rw [evs]; exact .str _) ea_nil))))
        refine (et_and t1 fun _ => t2).of ?_
        rw [sort_in, esd]
        have e1 : decide ([NestedKey.text du.ower, NestedKey.text du.owed] = [NestedKey.text x, NestedKey.text y]) = (decide (du.ower = x) && decide (du.owed = y)) := by simp
        rw [e1] <;> rfl)
      (fun z k Hl H2 ne tk hk s2 fz _ => ef_var rfl fz)
    obtain ⟨u, hu', mu, hL⟩ := hlk
    refine seqi ⟨a.fA, u, hu', mu, fun od => hL od _ fun v7 H2 hd s2 lw => ⟨hd, ?_⟩⟩
    dsimp only
    rw [List.map_id, r.keysDue] at lw
    have lw : LW H1 (upd H2 a.fA u) v7 ((s.paid x y (s.isMet vv d x y)).map Due.key) := Eq.mp (congrArg (LW H1 (upd H2 a.fA u) v7) (filter_due (s.falls.map (·.1)) fun du => (decide (du.ower = x) && decide (du.owed = y)) && (s.isMet vv d x y || !((aget s.sorts du.page).getD false)))) lw
    obtain ⟨L, ys, rfl, hnL, hL2, fL⟩ := lw
    have nL : ¬ own L := fun z => c1.ol _ z hnL
    generalize eH3 : upd H2 a.fA u = H3 at *
    have s3 := s1.trans s2
    have c3 := c.sm s3
    have f3 := f1.sm s3
    have et := et_eqN (K := K) (σ := [some (.ref a.p), some v, some (.str (bS vv)), some (.int d), some (.str x), some (.str y), some (.str (bS (s.isMet vv d x y))), some (.ref L), none]) (H := H3) (ta := tVar 7) (ep_var (P := fun v H2 => LF K H2 v ((s.paid x y (s.isMet vv d x y)).map Due.key)) rfl kp_lf ⟨L, ys, rfl, sqL_of hL2, fL⟩)
    have emp : ((s.paid x y (s.isMet vv d x y)).map Due.key).isEmpty = (s.paid x y (s.isMet vv d x y)).isEmpty := by
      cases s.paid x y (s.isMet vv d x y) <;> rfl
    rw [emp] at et
    have zsort := c.zs
    refine seqi (s_if et (fun hb H4 s4 => ?_) (fun hb H4 s4 => ?_))
    · have ego : s.go vv d x y = ({ s with sorts := aput s.sorts (.going vv d x y) (s.isMet vv d x y), falls := aput s.falls ⟨y, x, .going vv d x y⟩ [] }, mDue) := by
        unfold WS.go
        rw [if_pos hb]
      rw [ego] at q
      have c4 := (c3.sm s4).mono (Nat.le_succ n)
      obtain ⟨ks4, ds4, rs4⟩ := c4.ds
      refine seqi (s_nput (R := fun v _ => v = .str (bS (s.isMet vv d x y))) kp_ev (ev_var rfl) (c4.fSorts T rfl) (ef_var rfl (f3.sm s4)) ds4 (IsKy.page _) (by rw [rs4.length]; omega) fun v5 H5 H6 s5 e5 dw6 ne6 => ?_)
      dsimp only
      obtain ⟨c6, st6⟩ := (c4.sm s5).setS dw6 ne6 (DR.put (fun _ _ => Page.key_inj) rs4 (k := .going vv d x y) (a := s.isMet vv d x y) e5) (Nat.le_trans (aput_length _ _ _) (by omega))
      have st6 := (Step.of_same (own := own) ((s3.trans s4).trans s5)).trans st6
      obtain ⟨kv6, dwf, rf⟩ := c6.df
      have hzf : kv6.length < 100000 := by
        rw [rf.length]
        show s.falls.length < 100000
        omega
      refine seqi (s_nput (k := Due.key ⟨y, x, .going vv d x y⟩) (R := fun v H => Fz H v (.tup (ik []))) kp_fz (ef_tup (ks := []) ea_nil) (c6.fFalls T rfl) (ef_tup (ks := [.text y, .text x, Page.key (.going vv d x y)]) (ea_cons (ef_of_str (ev_var (i := 5) rfl)) (ea_cons (ef_of_str (ev_var (i := 4) rfl)) (ea_cons (ef_var (i := 1) rfl (f1.tk st6.tk)) ea_nil)))) dwf (IsKy.due _) hzf fun v7 H7 H8 s7 f7 dw8 ne8 => ?_)
      dsimp only
      obtain ⟨c8, st8⟩ := (c6.sm s7).setF dw8 ne8 (DR.put (fun _ _ => Due.key_inj) (rf.imp fun _ _ q => q.sm s7) (k := ⟨y, x, .going vv d x y⟩) (a := []) f7)
      have st8 := st6.trans ((Step.of_same s7).trans st8)
      obtain ⟨n1, n2, n3, n4, ho⟩ := c8.o
      refine seqi (s_fldV (P := fun v _ => v = .int (n1 + 1)) kp_ev (ev_I0 (g := fun i j => .int (i + j)) (ev_fld (ev_var rfl) ho T.clW (T.noW _ (by simp)) (wf_made _ _ _ _ _ _ _ _ _ _ _ _ _)) ev_c) (ev_var rfl) ho T.clW (T.noW _ (by simp)) (by show (13 : Nat) < 900; decide) fun v9 H9 s9 e9 => ?_)
      dsimp only
      subst e9
      rw [wf_put1]
      obtain ⟨c10, st10⟩ := (c8.sm s9).setN (m1 := n1 + 1) (m2 := n2) (m3 := n3) (m4 := n4)
      refine s_ret (ef_tup (ks := [.text "due"]) (ea_cons ef_str ea_nil)) fun v11 H11 s11 f11 => ?_
      exact q v11 H11 own (((st8.trans (.of_same s9)).trans st10).trans (.of_same s11)) (c10.sm s11) f11
    · have ego : s.go vv d x y = ({ s with falls := (s.paid x y (s.isMet vv d x y)).foldl adrop s.falls }, mAns (s.paid x y (s.isMet vv d x y)).length) := by
        unfold WS.go
        rw [if_neg (by rw [hb]; decide)]
      rw [ego] at q
      dsimp only [tNext]
      have c4 := c3.sm s4
      have pnd : (s.paid x y (s.isMet vv d x y)).Nodup := (List.filter_sublist).nodup nd
      have psub : ∀ e ∈ s.paid x y (s.isMet vv d x y), (aget s.falls e).isSome = true := fun e he => aget_some.mpr ((List.mem_filter.mp he).1)
      generalize s.paid x y (s.isMet vv d x y) = pd at *
      refine q_forLa (ev_var (i := 7) rfl) (fL.sm s4) (fun i σ' H' => (∃ z, σ' = [some (.ref a.p), some v, some (.str (bS vv)), some (.int d), some (.str x), some (.str y), some (.str (bS (s.isMet vv d x y))), some (.ref L), z]) ∧ Step own H4 own H' ∧ WC P w CW H' a own g lost { s with falls := (pd.take i).foldl adrop s.falls } marks n)
        (fun H5 s5 => ⟨⟨_, rfl⟩, .of_same s5, c4.sm s5⟩) (fun i σ' H' ⟨_, st, _⟩ => ⟨st.tk, sqL_of (st.keep _ _ (s4 _ _ hL2) nL)⟩) (fun i j u σ' H' hj fj ⟨⟨z, hz'⟩, st, ci⟩ => ?_) (fun σ' H' ⟨⟨z, hz'⟩, st, ci⟩ => ?_)
      · subst hz'
        rw [List.getElem?_map] at hj
        obtain ⟨du, hdu, rfl⟩ := Option.map_eq_some_iff.mp hj
        obtain ⟨kvi, dwi, ri⟩ := ci.df
        have hin : (aget ((pd.take i).foldl adrop s.falls) du).isSome = true := by
          rw [drop_fold, if_neg (nodup_take pnd hdu)]
          exact psub du (List.mem_of_getElem? hdu)
        obtain ⟨l, el⟩ := Option.isSome_iff_exists.mp hin
        obtain ⟨vl, hvl, fl⟩ := DR.some (fun _ _ => Due.key_inj) ri el
        refine r_npop (k := du.key) (ci.fFalls T rfl) (ef_var (i := 8) rfl fj) dwi (IsKy.due du) hvl fun H5 H6 s5 dw6 ne6 => ?_
        obtain ⟨c6, st6⟩ := (ci.sm s5).setF dw6 ne6 (DR.drop (fun _ _ => Due.key_inj) (ri.imp fun _ _ q => q.sm s5) du)
        refine ⟨⟨_, rfl⟩, st.trans ((Step.of_same s5).trans st6), ?_⟩
        rw [keys_take hdu]
        exact c6
      · subst hz'
        rw [List.length_map, List.take_length] at ci
        obtain ⟨xa', hxa', lx⟩ := ci.da
        have ci := ci.mono (Nat.le_succ n)
        have hLz : H' L = some (.lst ys) := st.keep _ _ (s4 _ _ hL2) nL
        have fLz := (fL.sm s4).tk st.tk
        refine seqi (s_app (P := fun _ _ => True) (fun _ _ _ _ h => h) (ci.fld T (f := "answers") (v := .ref a.aA) (by simp) (fun _ _ _ _ => rfl) rfl) (fun H5 s5 Q5 q5 => ⟨_, rfl, _, rfl, (by show (2 : Nat) ≤ sizeLine; decide), fun p hp => q5 _ _ (Same.new hp) trivial⟩) hxa' (by omega) fun v5 H5 s5 _ => ?_)
        dsimp only
        obtain ⟨c6, st6⟩ := (ci.sm s5).setA (xs := xa' ++ [v5]) (by simp only [List.length_append, List.length_cons, List.length_nil]; omega)
        have st6 := st.trans ((Step.of_same s5).trans st6)
        refine s_ret (ef_tup (ks := [.text "answer", .num pd.length]) (ea_cons ef_str (ea_cons (ef_of_int ?_) ea_nil))) fun v7 H7 s7 f7 => ?_
        · have := ev_lenL (K := K) (σ := [some (.ref a.p), some v, some (.str (bS vv)), some (.int d), some (.str x), some (.str y), some (.str (bS (s.isMet vv d x y))), some (.ref L), z]) (te := tVar 7) (H := upd H5 a.aA (.lst (xa' ++ [v5]))) (ep_var (P := fun v H2 => LF K H2 v (pd.map Due.key)) rfl kp_lf ⟨L, ys, rfl, sqL_of (st6.keep _ _ (s4 _ _ hL2) nL), (fL.sm s4).tk st6.tk⟩)
          rw [List.length_map] at this
          exact this
        · exact q v7 H7 own (((Step.of_same (s3.trans s4)).trans st6).trans (.of_same s7)) (c6.sm s7) f7
end
end K34
namespace K34
open PySem PySem.Spec L2

section
variable {P : Program} {w : World} {K : PySem.W.Frag} {mg : Str → Option Value} {base : Heap} {CH CW aK aA aG : Addr} {H H' : Hp} {a : WA} {own : Addr → Prop} {g : WG} {lost : List Page} {s : WS} {marks : List (Page × NestedKey)} {n : Nat} {σ : St} {tg : TG} {tu : TS} {D : Ends}
def fallF (s : WS) (t : Int × Int) (day : Int) (i : Nat) : Falls := (s.falls.take i).map (fallE s t day) ++ s.falls.drop i
theorem fallF_keys (s : WS) (t : Int × Int) (day : Int) (i : Nat) : (fallF s t day i).map (·.1) = s.falls.map (·.1) := by
  unfold fallF
  rw [List.map_append, List.map_map]
  have : (s.falls.take i).map ((fun x => x.1) ∘ fallE s t day) = (s.falls.take i).map (·.1) := List.map_congr_left fun e _ => rfl
  rw [this, ← List.map_append, List.take_append_drop]
theorem aput_mid {A B : Falls} {d : Due} {l l' : List Int} (nd : ((A ++ (d, l) :: B).map (·.1)).Nodup) : aput (A ++ (d, l) :: B) d l' = A ++ (d, l') :: B := by
  rw [aput_old (by simp)]
  rw [List.map_append, List.map_cons, List.nodup_append] at nd
  obtain ⟨_, n2, n3⟩ := nd
  rw [List.nodup_cons] at n2
  rw [List.map_append, List.map_cons]
  have e1 : A.map (fun e => if e.1 = d then (e.1, l') else e) = A := by
    conv => rhs; rw [← List.map_id A]
    refine List.map_congr_left fun e he => ?_
    have : e.1 ≠ d := n3 _ (List.mem_map_of_mem he) _ List.mem_cons_self
    rw [if_neg this] <;> rfl
  have e2 : B.map (fun e => if e.1 = d then (e.1, l') else e) = B := by
    conv => rhs; rw [← List.map_id B]
    refine List.map_congr_left fun e he => ?_
    have : e.1 ≠ d := fun z => n2.1 (z ▸ List.mem_map_of_mem (f := (·.1)) he)
    rw [if_neg this] <;> rfl
  rw [e1, e2]
  simp
theorem fallF_at {s : WS} {t : Int × Int} {day : Int} {i : Nat} {d : Due} {l : List Int} (h : s.falls[i]? = some (d, l)) : fallF s t day i = (s.falls.take i).map (fallE s t day) ++ (d, l) :: s.falls.drop (i + 1) := by
  unfold fallF
  congr 1
  have hi : i < s.falls.length := (List.getElem?_eq_some_iff.mp h).1
  rw [List.drop_eq_getElem_cons hi]
  rw [(List.getElem?_eq_some_iff.mp h).2]
theorem fallF_succ {s : WS} {t : Int × Int} {day : Int} {i : Nat} {d : Due} {l : List Int} (nd : (s.falls.map (·.1)).Nodup) (h : s.falls[i]? = some (d, l)) :
    fallF s t day (i + 1) = if fallIf s t day (d, l) then aput (fallF s t day i) d (l ++ [day]) else fallF s t day i := by
  have e1 : fallF s t day (i + 1) = (s.falls.take i).map (fallE s t day) ++ fallE s t day (d, l) :: s.falls.drop (i + 1) := by
    unfold fallF
    rw [List.take_add_one, h, List.map_append, List.append_assoc] <;> rfl
  have nd' := fallF_keys s t day i ▸ nd
  rw [fallF_at h] at nd' ⊢
  rw [aput_mid nd', e1]
  unfold fallE
  split <;> rfl
theorem fallF_get {s : WS} {t : Int × Int} {day : Int} {i : Nat} {d : Due} {l : List Int} (nd : (s.falls.map (·.1)).Nodup) (h : s.falls[i]? = some (d, l)) : aget (fallF s t day i) d = some l := by
  refine aget_of_mem ?_ ?_
  · rw [fallF_keys]; exact nd
  · rw [fallF_at h]
    simp
def spFall (P : Program) (w : World) (CW : Addr) : Sp := fun vs H Q _ => ∃ a own g lost s marks n day, vs = [.ref (WA.p a), .int day] ∧ WC P w CW H a own g lost s marks n ∧ n ≤ 900 ∧ (∀ e ∈ s.falls.map (·.1), (aget s.sorts e.page).isSome = true) ∧ (s.falls.map (·.1)).Nodup ∧ s.falls.length ≤ 40000 ∧ (∀ e ∈ s.falls, e.2.length ≤ 5000) ∧
  ∀ H' own', Step own H own' H' → WC P w CW H' a own' g lost (s.fall g.terms day) marks n → Q .non H'
theorem sc_Walk_fall : FnScope ["self", "day", "due", "falls", "left"] ["self", "day"] (defScope s_Walk_fall) := ⟨rfl, rfl, rfl, by decide +kernel, rfl, by decide +kernel, by decide +kernel⟩
theorem ok_fall (T : Txt K mg CH CW aK aA aG) (D : Mat K CW "fall" "Walk.fall" s_Walk_fall ["self", "day"]) (M_mourns : MOK P w K mg base 2 CW "mourns" ["self", "name", "day"] (spMourns P w CW)) (G_term_of : OK P w K mg base 1 "term_of" ["terms", "sort"] (fspR termR)) (G_page_day : OK P w K mg base 1 "page_day" ["page"] (fsp (r_at 1))) :
    MOK P w K mg base 4 CW "fall" ["self", "day"] (spFall P w CW) := by
  refine mok_mk D sc_Walk_fall (fun vs H Q E h => ?_) (fun f cdv A outer s H vs Q E hr h => ?_)
  · obtain ⟨a, own, g, lost, s, marks, n, day, rfl, _⟩ := h
    rfl
  · obtain ⟨a, own, g, lost, s, marks, n, day, rfl, c, hn, hso, nd, hz, hlen, q⟩ := h
    have hu := hr.units
    have hu0 := hr.units0
    have hu1 : _ + 1 < cLine := Nat.lt_of_le_of_lt (Nat.add_le_add_left (by decide : 1 ≤ 64) _) hu
    refine ⟨_, (pss_one (ps_for PassesOwn.never rfl (pi_list (pe_callTy (call_list_dN rfl) (by rfl) T.list b_list (pa_cons (pe_fld (pv 0) (by rfl)) pa_nil))) (pg_name (i := 2) sc_Walk_fall.nd rfl (Or.inl rfl)) (pss_cons (ps_set (i := 3) sc_Walk_fall.nd rfl (Or.inl rfl) (pe_nget hu (pe_fld (pv 0) (by rfl)) (pv 2) (fun _ _ => rfl))) (pss_cons (ps_set (i := 4) sc_Walk_fall.nd rfl (Or.inl rfl) (pe_op op_sub (px_call G_term_of (hr.mono (by decide)) (by rfl) (pa_cons (pe_fld (pv 0) (by rfl)) (pa_cons (pe_nget hu (pe_fld (pv 0) (by rfl)) (pe_ix ix_tup (pv 2) pe_int (fun _ _ => rfl)) (fun _ _ => rfl)) pa_nil))) (pe_callB call_lenK (by rfl) T.len b_len (pa_cons (pv 3) pa_nil)))) (pss_one (ps_if (pw_and (pt_cmpR op_gt (pv 4) pe_int (nomark _)) (pw_and (pt_cmpR op_lt (px_call G_page_day (hr.mono (by decide)) (by rfl) (pa_cons (pe_ix ix_tup (pv 2) pe_int (fun _ _ => rfl)) pa_nil)) (pv 1) (nomark _)) (pw_and (pt_not (pt_val (px_meth T.clW M_mourns (hr.mono (by decide)) (pv 0) (pa_cons (pe_ix ix_tup (pv 2) pe_int (fun _ _ => rfl)) (pa_cons (pv 1) pa_nil))))) (pw_and1 (pt_not (pt_val (px_meth T.clW M_mourns (hr.mono (by decide)) (pv 0) (pa_cons (pe_ix ix_tup (pv 2) pe_int (fun _ _ => rfl)) (pa_cons (pv 1) pa_nil))))))))).pt (pss_one (ps_nput hu (pe_fld (pv 0) (by rfl)) (pv 2) (pe_op op_catA (pv 3) (pe_tup (pa_cons (pv 1) pa_nil))) rfl)) pss_nil)))))), ?_⟩
    refine walk_for c T rfl (fallF s g.terms day) (by unfold fallF; simp) (fun σ => ∃ z2 z3 z4, σ = [some (.ref a.p), some (.int day), z2, z3, z4]) ⟨_, _, _, rfl⟩ ?_ ?_
    · rintro H1 s1 i d u σ' H' hd fu ⟨z2, z3, z4, rfl⟩ ⟨own', st, c1⟩
      rw [List.getElem?_map] at hd
      obtain ⟨⟨d', l⟩, hdl, rfl⟩ := Option.map_eq_some_iff.mp hd
      have fu0 : Fz H' u (Due.key d') := fu
      have fu : Fz H' u (.tup [.text d'.ower, .text d'.owed, d'.page.key]) := fu
      obtain ⟨kv, dw, r, hl⟩ := df_get c1
      obtain ⟨vl, hvl, fl⟩ := DR.some (fun _ _ => Due.key_inj) r (fallF_get nd hdl)
      have hmem : d' ∈ s.falls.map (·.1) := List.mem_of_getElem? (by rw [List.getElem?_map, hdl] <;> rfl)
      have hll : l.length ≤ 5000 := hlen _ (List.mem_of_getElem? hdl)
      refine q_asg (ev_nget (c1.fFalls T rfl) (ef_var (i := 2) rfl fu0) dw (IsKy.due d') hvl) fun v3 H2 s2 e3 => ?_
      subst e3
      have c2 := c1.sm s2
      obtain ⟨sd, esd⟩ := Option.isSome_iff_exists.mp (hso d' hmem)
      obtain ⟨ks, ds, rs⟩ := c2.ds
      obtain ⟨vs, hvs, evs⟩ := rs.some (fun _ _ => Page.key_inj) esd
      have fl2 := fl.sm s2
      have fu2 := fu.sm s2
      refine q_asg (P := fun v _ => v = .int (termOf g.terms sd - (l.length : Int))) (ev_I0 (g := fun i j => .int (i - j)) (a := termOf g.terms sd) (b := (l.length : Int)) (ev_of_int (ef_callR (ea_cons ((c2.fld T (by simp) (fun _ _ _ _ => rfl) rfl).imp (R := fun v H3 => Fz H3 v (.tup [.num g.terms.1, .num g.terms.2])) fun v H3 s3 e => by subst e; exact c2.ft.sm s3) (ea_cons ((ev_nget (c2.fSorts T rfl) (ef_ix (ef_var (i := 2) rfl fu2) ev_c (atI_of (n := 2) rfl)) ds (IsKy.page _) hvs).imp (R := fun v H3 => Fz H3 v (.text (bS sd))) fun v H3 s3 e => by subst e; rw [evs]; exact .str _) ea_nil)) ⟨g.terms, sd, rfl, rfl⟩)) ?_) fun v4 H3 s3 e4 => ?_
      · have := ev_lenT (K := K) (σ := [some (.ref a.p), some (.int day), some u, some v3, z4]) (H := H2) (ef_var (i := 3) rfl fl2)
        rw [ik_len] at this
        exact this
      subst e4
      have c3 := c2.sm s3
      have fu3 := fu2.sm s3
      have ef : fallIf s g.terms day (d', l) = (decide (0 < termOf g.terms sd - (l.length : Int)) && (decide (d'.page.day < day) && (!mournsB s.mourned d'.ower day && !mournsB s.mourned d'.owed day))) := by
        unfold fallIf
        rw [esd] <;> rfl
      have tm : ∀ {H4 : Hp} {j : Nat} {x : Str}, Same H3 H4 → [NestedKey.text d'.ower, .text d'.owed, d'.page.key][j]? = some (.text x) → EvT (tNot (tB (tMeth CW "mourns" (spMourns P w CW) [] E0 (tVar 0) (tCons (tOp (rIxT K) (tVar 2) (tC (.int (j : Int)))) (tCons (tVar 1) tNil))))) [some (.ref a.p), some (.int day), some u, some v3, some (.int (termOf g.terms sd - (l.length : Int)))] H4 (!mournsB s.mourned x day) := fun s4 e => et_not (et_B (ev_mourns (s := { s with falls := fallF s g.terms day i }) (c3.sm s4) hn rfl (ea_cons (ef_ix (ef_var (i := 2) rfl (fu3.sm s4)) ev_c (atI_of e)) (ea_cons (ef_of_int (ev_var rfl)) ea_nil))))
      have tt : EvT _ [some (.ref a.p), some (.int day), some u, some v3, some (.int (termOf g.terms sd - (l.length : Int)))] H3 (fallIf s g.terms day (d', l)) := (et_and (et_test (ev_I0 (g := fun i j => .bl (decide (j < i))) (ev_var (i := 4) rfl) (ev_c (v := .int 0)))) fun _ => et_and (et_test (ev_I0 (g := fun i j => .bl (decide (i < j))) (ev_of_int (ef_call (r := r_at 1) (E := E0) (k := .num d'.page.day) (ea_cons (ef_ix (K := K) (ef_var (i := 2) rfl fu3) (ev_c (v := .int 2)) (atI_of (n := 2) rfl)) ea_nil) rfl)) (ev_var (i := 1) rfl))) fun _ => et_and (tm (j := 0) (.refl _) rfl) fun _ => tm (j := 1) (.refl _) rfl).of ef.symm
      have hnx := fallF_succ (t := g.terms) (day := day) nd hdl
      refine s_if tt (fun hb H4 s4 => ?_) (fun hb H4 s4 => ?_)
      · have c4 := c3.sm s4
        obtain ⟨kv4, dw4, r4, hl4⟩ := df_get c4
        have hz4 : kv4.length < 100000 := by
          rw [hl4]
          have := congrArg List.length (fallF_keys s g.terms day i)
          rw [List.length_map, List.length_map] at this
          show (fallF s g.terms day i).length < 100000
          omega
        refine s_nput (k := d'.key) (R := fun v H => Fz H v (.tup (ik (l ++ [day])))) kp_fz ?_ (c4.fFalls T rfl) (ef_var (i := 2) rfl (fu3.sm s4)) dw4 (IsKy.due d') hz4 fun v5 H5 H6 s5 f5 dw6 ne6 => ?_
        · have := ef_cat (K := K) (σ := [some (.ref a.p), some (.int day), some u, some v3, some (.int (termOf g.terms sd - (l.length : Int)))]) (H := H4) (ef_var (i := 3) rfl ((fl2.sm s3).sm s4)) (ef_tup (ks := [.num day]) (ea_cons (ef_of_int (ev_var (i := 1) rfl)) ea_nil)) (by rw [ik_len]; show l.length + 1 ≤ _; omega)
          have e : ik (l ++ [day]) = ik l ++ [.num day] := List.map_append
          rw [e]
          exact this
        · obtain ⟨c6, st6⟩ := (c4.sm s5).setF dw6 ne6 (DR.put (fun _ _ => Due.key_inj) (r4.imp fun _ _ q => q.sm s5) (k := d') (a := l ++ [day]) f5)
          refine ⟨⟨_, _, _, rfl⟩, own', (st.trans (.of_same (((s2.trans s3).trans s4).trans s5))).trans st6, ?_⟩
          rw [hnx, if_pos hb]
          exact c6
      · refine ⟨⟨_, _, _, rfl⟩, own', st.trans (.of_same ((s2.trans s3).trans s4)), ?_⟩
        rw [hnx, if_neg (by rw [hb]; decide)]
        exact c3.sm s4
    · rintro σ' H' _ ⟨own', st, c1⟩
      have e : fallF s g.terms day s.falls.length = s.falls.map (fallE s g.terms day) := by
        unfold fallF
        rw [List.take_length, List.drop_length, List.append_nil]
      rw [e] at c1
      exact q H' own' st c1
end
end K34
namespace K34
open PySem PySem.Spec L2

section
variable {κ κ' α : Type} [DecidableEq κ] [DecidableEq κ'] {f : κ → κ'} {R S : V → α → Prop} {kvs : List (κ' × V)} {l : List (κ × α)}
theorem valV_mem {k : κ'} {v : V} (nd : (kvs.map (·.1)).Nodup) (h : (k, v) ∈ kvs) : valV kvs k = some v := by
  induction kvs with
  | nil => cases h
  | cons e l ih =>
    rw [List.map_cons, List.nodup_cons] at nd
    rcases List.mem_cons.mp h with h | h
    · subst h
      exact valV_pos rfl
    · have : e.1 ≠ k := fun z => nd.1 (z ▸ List.mem_map_of_mem (f := (·.1)) h)
      rw [valV_neg this]
      exact ih nd.2 h
theorem DR.nodup (hf : ∀ a b, f a = f b → a = b) (h : DR f R kvs l) (nd : (l.map (·.1)).Nodup) : (kvs.map (·.1)).Nodup := by
  rw [h.keys]
  unfold List.Nodup at nd ⊢
  rw [List.pairwise_map] at nd ⊢
  exact nd.imp fun a z => a (hf _ _ z)
/-- one thing's inside changes, the dict does not -/
theorem DR.alter (hf : ∀ a b, f a = f b → a = b) (h : DR f R kvs l) (nd : (l.map (·.1)).Nodup) {x : κ} {a0 : α} {v0 : V} (hv : valV kvs (f x) = Option.some v0) (g : ∀ y v a, y ≠ x → valV kvs (f y) = Option.some v → R v a → S v a) (r : S v0 a0) : DR f S kvs (aput l x a0) := by
  have hx : x ∈ l.map (·.1) := by
    rw [← aget_some, ← h.isSome hf x, hv] <;> rfl
  rw [aput_old hx]
  have nk := h.nodup hf nd
  have key : ∀ {ks : List (κ' × V)} {js : List (κ × α)}, DR f R ks js → (∀ p ∈ ks, p ∈ kvs) → DR f S ks (js.map fun e => if e.1 = x then (e.1, a0) else e) := by
    intro ks js h
    induction h with
    | nil => exact fun _ => .nil
    | @cons p e ks js q _ ih =>
      intro hm
      rw [List.map_cons]
      refine .cons ?_ (ih fun p hp => hm p (List.mem_cons_of_mem _ hp))
      have hp : valV kvs (f e.1) = Option.some p.2 := by
        rw [← q.1]
        exact valV_mem nk (hm p List.mem_cons_self)
      by_cases he : e.1 = x
      · rw [if_pos he]
        refine ⟨q.1, ?_⟩
        rw [he, hv] at hp
        cases hp
        exact r
      · rw [if_neg he]
        exact ⟨q.1, g _ _ _ he hp q.2⟩
  exact key h fun p hp => hp
end
section
variable {P : Program} {w : World} {K : PySem.W.Frag} {mg : Str → Option Value} {base : Heap} {CH CW aK aA aG : Addr} {H H' : Hp} {a : WA} {own : Addr → Prop} {g : WG} {lost : List Page} {s : WS} {marks : List (Page × NestedKey)} {n : Nat} {σ : St} {tg : TG} {tu : TS} {D : Ends}
/-- a name's list of mournings grows -/
theorem WC.setM1 (c : WC P w CW H a own g lost s marks n) {kv : List (Key × V)} {b : Addr} {xs : List V} {y : V} {x : Str} {e : Int × Int} (hm : H a.mA = some (.dK kv)) (hb : valV kv (kS x) = some (.ref b)) (hx : H b = some (.lst xs)) (fy : Fz H y (pairK e)) (hz : ((aget s.mourned x).getD []).length + 1 ≤ n) :
    WC P w CW (upd H b (.lst (xs ++ [y]))) a own g lost { s with mourned := aput s.mourned x ((aget s.mourned x).getD [] ++ [e]) } marks n ∧ Step own H own (upd H b (.lst (xs ++ [y]))) := by
  obtain ⟨⟨f1, k1⟩, ⟨f2, k2⟩, ⟨f3, k3⟩, ⟨f4, k4⟩, ⟨f5, k5⟩, ⟨f6, k6⟩, ⟨f7, k7⟩, ⟨f8, k8⟩⟩ := c.kd
  obtain ⟨kv0, hm0, rm, inj⟩ := c.dm
  rw [hm] at hm0
  cases hm0
  have hx0 : x ∈ s.mourned.map (·.1) := by rw [← aget_some, ← rm.isSome kS_inj x, hb] <;> rfl
  obtain ⟨l, el⟩ := Option.isSome_iff_exists.mp (aget_some.mpr hx0)
  obtain ⟨v', hv', b', xs', ev', hb', fx, ob, nk, na⟩ := rm.some kS_inj el
  rw [hb] at hv'
  cases hv'
  cases ev'
  rw [hx] at hb'
  cases hb'
  have st : Step own H own (upd H b (.lst (xs ++ [y]))) := Step.upd ob hx (fun _ z => by cases z)
  rw [el] at hz ⊢
  have hz : l.length + 1 ≤ n := hz
  have at2 : ∀ {c o}, H c = some o → (∀ k, o ≠ .lst k) → upd H b (.lst (xs ++ [y])) c = some o := fun e ne => by
    rw [upd_ne (ne_of e hx (ne _))]
    exact e
  have rm' : DR kS (MR (upd H b (.lst (xs ++ [y]))) own a.kA a.aA) kv (aput s.mourned x (l ++ [e])) := by
    refine rm.alter kS_inj c.nm hb (fun z v lz ne hz' q => ?_) ⟨b, xs ++ [y], rfl, upd_same, ?_, ob, nk, na⟩
    · obtain ⟨b2, xs2, e2, h2, f2, o2⟩ := q
      have : b2 ≠ b := fun h => ne (inj z x b (by rw [hz', e2, h]) hb)
      exact ⟨b2, xs2, e2, by rw [upd_ne this]; exact h2, f2.tk st.tk, o2⟩
    · rw [List.map_append]
      exact (fx.tk st.tk).append (.one (fy.tk st.tk))
  refine ⟨{ c with o := ?_, fb := c.fb.tk st.tk, ft := c.ft.tk st.tk, dl := ?_, dh := ?_, dm := ⟨kv, at2 hm (fun k z => by cases z), rm', inj⟩, ds := ?_, df := ?_, dk := ?_, da := ?_, nm := aput_nodup c.nm, zm := ?_, zl := fun z lz hz2 => ?_, ol := fun b h z => c.ol b h (st.live b z) }, st⟩
  · obtain ⟨n1, n2, n3, n4, h⟩ := c.o
    exact ⟨n1, n2, n3, n4, at2 h (fun k z => by cases z)⟩
  · obtain ⟨k, h1, h2⟩ := c.dl
    exact ⟨k, h1.keep (by obtain ⟨φ, q⟩ := h1.ho; rw [at2 q (fun k z => by cases z), q]) st.tk, h2⟩
  · obtain ⟨k, h1, h2⟩ := c.dh
    exact ⟨k, at2 h1 (fun k z => by cases z), h2.tk st.tk⟩
  · obtain ⟨k, h1, h2⟩ := c.ds
    exact ⟨k, h1.keep (by obtain ⟨φ, q⟩ := h1.ho; rw [at2 q (fun k z => by cases z), q]) st.tk, h2⟩
  · obtain ⟨k, h1, h2⟩ := c.df
    exact ⟨k, h1.keep (by obtain ⟨φ, q⟩ := h1.ho; rw [at2 q (fun k z => by cases z), q]) st.tk, h2.imp fun _ _ q => q.tk st.tk⟩
  · obtain ⟨k, h1, h2⟩ := c.dk
    exact ⟨k, by rw [upd_ne nk.symm]; exact h1, h2.tk st.tk⟩
  · obtain ⟨k, h1, h2⟩ := c.da
    exact ⟨k, by rw [upd_ne na.symm]; exact h1, h2⟩
  · have := congrArg List.length (aput_keys s.mourned x (l ++ [e]))
    rw [if_pos hx0, List.length_map, List.length_map] at this
    exact Nat.le_trans (Nat.le_of_eq this) c.zm
  · have hz2 : aget (aput s.mourned x (l ++ [e])) z = some lz := hz2
    rw [aget_put] at hz2
    split at hz2
    · cases hz2
      simp only [List.length_append, List.length_cons, List.length_nil]
      omega
    · exact c.zl z lz hz2
/-- a name's first mourning: a new list at b -/
theorem WC.setM2 (c : WC P w CW H a own g lost s marks n) {kv : List (Key × V)} {b : Addr} {x : Str} (hm : H a.mA = some (.dK kv)) (hn : aget s.mourned x = none) (hx : H b = some (.lst [])) (nb : ¬ own b) (hz : s.mourned.length + 1 ≤ n) :
    WC P w CW (upd H a.mA (.dK (putK kv (kS x) (.ref b)))) a (fun z => own z ∨ z = b) g lost { s with mourned := aput s.mourned x [] } marks n ∧ ∀ H0, Step own H0 own H → H0 b = none → Step own H0 (fun z => own z ∨ z = b) (upd H a.mA (.dK (putK kv (kS x) (.ref b)))) := by
  obtain ⟨⟨f1, k1⟩, ⟨f2, k2⟩, ⟨f3, k3⟩, ⟨f4, k4⟩, ⟨f5, k5⟩, ⟨f6, k6⟩, ⟨f7, k7⟩, ⟨f8, k8⟩⟩ := c.kd
  obtain ⟨kv0, hm0, rm, inj⟩ := c.dm
  rw [hm] at hm0
  cases hm0
  have st : Step own H own (upd H a.mA (.dK (putK kv (kS x) (.ref b)))) := Step.upd (c.ow _ (by simp)) hm (fun _ z => by cases z)
  obtain ⟨e1, e2, e3, e4, e5, e6, e7, e8, e9, e10⟩ := c.rest (fun b h => upd_ne h) st.tk (mr_ne hm (fun k z => by cases z))
  have hvn : valV kv (kS x) = none := by
    have := rm.isSome kS_inj x
    rw [hn] at this
    cases e : valV kv (kS x) with
    | none => rfl
    | some => rw [e] at this; cases this
  have nbo : ∀ z v, valV kv (kS z) = some v → v ≠ .ref b := fun z v hv h => by
    have hz : z ∈ s.mourned.map (·.1) := by rw [← aget_some, ← rm.isSome kS_inj z, hv] <;> rfl
    obtain ⟨l, el⟩ := Option.isSome_iff_exists.mp (aget_some.mpr hz)
    obtain ⟨v', hv', b', xs', ev', _, _, ob, _⟩ := rm.some kS_inj el
    rw [hv, h] at hv'
    cases hv'
    cases ev'
    exact nb ob
  refine ⟨{ c with o := e3 (ne_of k1 hm (fun z => by cases z)), fb := e1, ft := e2, dl := e4 (ne_of k4 hm (fun z => by cases z)), dh := e5 c.nhm, dm := ⟨_, upd_same, ?_, fun y z d h1 h2 => ?_⟩, ds := e7 (ne_of k5 hm (fun z => by cases z)), df := e8 (ne_of k6 hm (fun z => by cases z)), dk := e9 (ne_of k7 hm (fun z => by cases z)), da := e10 (ne_of k8 hm (fun z => by cases z)), nm := aput_nodup c.nm, zm := Nat.le_trans (aput_length _ _ _) hz, zl := fun z lz hz2 => ?_, ow := fun z hz => .inl (c.ow z hz), ol := fun z h e => ?_ }, fun H0 s0 h0 => ?_⟩
  · refine DR.put kS_inj (rm.imp fun v l q => ?_) ⟨b, [], rfl, by rw [upd_ne (ne_of hx hm (fun z => by cases z))]; exact hx, .nil, .inr rfl, fun z => nb (z ▸ c.ow _ (by simp)), fun z => nb (z ▸ c.ow _ (by simp))⟩
    obtain ⟨b2, xs2, e2, h2, f2, o2, o3⟩ := q
    exact ⟨b2, xs2, e2, by rw [upd_ne (ne_of h2 hm (fun z => by cases z))]; exact h2, f2.tk st.tk, .inl o2, o3⟩
  · rw [valV_put] at h1 h2
    by_cases hy : kS y = kS x
    · by_cases hz : kS z = kS x
      · exact kS_inj _ _ (hy.trans hz.symm)
      · rw [if_pos hy] at h1
        rw [if_neg hz] at h2
        cases h1
        exact absurd rfl (nbo z _ h2)
    · rw [if_neg hy] at h1
      by_cases hz : kS z = kS x
      · rw [if_pos hz] at h2
        cases h2
        exact absurd rfl (nbo y _ h1)
      · rw [if_neg hz] at h2
        exact inj y z d h1 h2
  · have hz2 : aget (aput s.mourned x []) z = some lz := hz2
    rw [aget_put] at hz2
    split at hz2
    · cases hz2
      exact Nat.zero_le _
    · exact c.zl z lz hz2
  · rcases h with h | h
    · exact c.ol z h (st.live z e)
    · subst h
      have := st.live _ e
      rw [hx] at this
      cases this
  · have st' := s0.trans st
    exact { st' with fresh := fun z h => h.elim (st'.fresh z) fun e => .inr (by rw [e]; exact h0) }
end
end K34
namespace K34
open PySem PySem.Spec L2

section
variable {P : Program} {w : World} {K : PySem.W.Frag} {mg : Str → Option Value} {base : Heap} {CH CW aK aA aG : Addr} {H H' : Hp} {a : WA} {own : Addr → Prop} {g : WG} {lost : List Page} {s : WS} {marks : List (Page × NestedKey)} {n : Nat} {σ : St} {tg : TG} {tu : TS} {D : Ends}
theorem valV_has {κ : Type} [DecidableEq κ] (kvs : List (κ × V)) (k : κ) : (valV kvs k).isSome = decide (k ∈ kvs.map (·.1)) := by
  induction kvs with
  | nil => rfl
  | cons e l ih =>
    by_cases h : e.1 = k
    · rw [valV_pos h]
      simp [h]
    · rw [valV_neg h, ih]
      have h' : ¬ k = e.1 := fun z => h z.symm
      simp [h']
theorem aput_aput {κ α : Type} [DecidableEq κ] (l : List (κ × α)) (k : κ) (v u : α) : aput (aput l k v) k u = aput l k u := by
  by_cases h : k ∈ l.map (·.1)
  · have h2 : k ∈ (aput l k v).map (·.1) := by
      rw [aput_keys, if_pos h]
      exact h
    rw [aput_old h2, aput_old h, aput_old h, List.map_map]
    refine List.map_congr_left fun e _ => ?_
    show (if (if e.1 = k then (e.1, v) else e).1 = k then ((if e.1 = k then (e.1, v) else e).1, u) else (if e.1 = k then (e.1, v) else e)) = _
    by_cases z : e.1 = k
    · simp [z]
    · simp [z]
  · have h2 : k ∈ (aput l k v).map (·.1) := by
      rw [aput_keys, if_neg h]
      simp
    rw [aput_old h2, aput_new h, aput_new h, List.map_append]
    have e1 : l.map (fun e => if e.1 = k then (e.1, u) else e) = l := by
      conv => rhs; rw [← List.map_id l]
      refine List.map_congr_left fun e he => ?_
      have : ¬ e.1 = k := fun z => h (List.mem_map.mpr ⟨e, he, z⟩)
      rw [if_neg this] <;> rfl
    rw [e1]
    simp
theorem lost_has {kv : List (NestedKey × V)} {lost : List Page} (h : kv.map (·.1) = lost.map Page.key) (p : Page) : (valV kv p.key).isSome = decide (p ∈ lost) := by
  rw [valV_has, h]
  simp only [key_mem]
def spPut (P : Program) (w : World) (CW : Addr) : Sp := fun vs H Q _ => ∃ a own g lost s marks n v pg, vs = [.ref (WA.p a), v] ∧ WC P w CW H a own g lost s marks n ∧ n < 900 ∧ Fz H v (Page.key pg) ∧ (pg ∉ lost → ∀ vv d x y, pg = .going vv d x y → (aget s.homes y).isSome = true) ∧ (∀ e ∈ s.falls.map (·.1), (aget s.sorts e.page).isSome = true) ∧ (s.falls.map (·.1)).Nodup ∧ s.falls.length ≤ 40000 ∧
  ∀ v' H' own', Step own H own' H' → WC P w CW H' a own' g lost (s.put lost pg).1 marks (n + 1) → Fz H' v' (s.put lost pg).2 → Q v' H'
theorem sc_Walk_put : FnScope ["self", "page", "kind"] ["self", "page"] (defScope s_Walk_put) := ⟨rfl, rfl, rfl, by decide +kernel, rfl, by decide +kernel, by decide +kernel⟩
theorem ok_put (T : Txt K mg CH CW aK aA aG) (D : Mat K CW "put" "Walk.put" s_Walk_put ["self", "page"]) (G_page_kind : OK P w K mg base 1 "page_kind" ["page"] (fsp (r_at 0))) (M_go : MOK P w K mg base 6 CW "go" ["self", "page"] (spGo P w CW)) (M_part : MOK P w K mg base 1 CW "part" ["self", "name", "fresh"] (spPart P w CW)) (M_join : MOK P w K mg base 6 CW "join" ["self", "name", "gone"] (spJoin P w CW)) :
    MOK P w K mg base 8 CW "put" ["self", "page"] (spPut P w CW) := by
  refine mok_mk D sc_Walk_put (fun vs H Q E h => ?_) (fun f cdv A outer s H vs Q E hr h => ?_)
  · obtain ⟨a, own, g, lost, s, marks, n, v, pg, rfl, _⟩ := h
    rfl
  · obtain ⟨a, own, g, lost, s, marks, n, v, pg, rfl, c, hn, f1, hgo, hso, nd, hz, q⟩ := h
    have hu := hr.units
    have hu0 := hr.units0
    have hu1 : _ + 1 < cLine := Nat.lt_of_le_of_lt (Nat.add_le_add_left (by decide : 1 ≤ 64) _) hu
    refine ⟨_, (pss_cons (ps_set (i := 2) sc_Walk_put.nd rfl (Or.inl rfl) (px_call G_page_kind (hr.mono (by decide)) (by rfl) (pa_cons (pv 1) pa_nil))) (pss_cons (ps_if (pt_cmp (pc_nin hu (pv 1) (pe_fld (pv 0) (by rfl))) (by with_unfolding_all rfl)) (pss_one (ps_ret (pe_tup (pa_cons pe_str pa_nil)))) pss_nil) (pss_cons (ps_if (pt_cmpR (op_inK hu) (pv 2) (pe_glob (v := .ref aG) (by rfl) T.goings rfl) (by with_unfolding_all rfl)) (pss_one (ps_ret (px_meth T.clW M_go (hr.mono (by decide)) (pv 0) (pa_cons (pv 1) pa_nil)))) pss_nil) (pss_cons (ps_if (pt_cmpR op_eq (pv 2) pe_str (nomark _)) (pss_cons (ps_expr (px_meth T.clW M_part (hr.mono (by decide)) (pv 0) (pa_cons (pe_ix ix_tup (pv 1) pe_int (fun _ _ => rfl)) (pa_cons (pe_ix ix_tup (pv 1) pe_int (fun _ _ => rfl)) pa_nil)))) (pss_one (ps_dput hu1 (pe_fld (pv 0) (by rfl)) (pe_ix ix_tup (pv 1) pe_int (fun _ _ => rfl)) (pe_ix ix_tup (pv 1) pe_int (fun _ _ => rfl)) rfl))) pss_nil) (pss_cons (ps_if (pt_cmpR op_eq (pv 2) pe_str (nomark _)) (pss_one (ps_expr (px_meth T.clW M_join (hr.mono (by decide)) (pv 0) (pa_cons (pe_ix ix_tup (pv 1) pe_int (fun _ _ => rfl)) (pa_cons (pe_ix ix_tup (pv 1) pe_int (fun _ _ => rfl)) pa_nil))))) pss_nil) (pss_cons (ps_if (pt_cmpR (op_inK hu) (pv 2) (pe_tup (pa_cons pe_str (pa_cons pe_str pa_nil))) (by with_unfolding_all rfl)) (pss_one (ps_dput hu1 (pe_fld (pv 0) (by rfl)) (pe_ix ix_tup (pv 1) pe_int (fun _ _ => rfl)) (pe_ix ix_tup (pv 1) pe_int (fun _ _ => rfl)) rfl)) pss_nil) (pss_cons (ps_if (pt_cmpR op_eq (pv 2) pe_str (nomark _)) (pss_one (ps_expr (pe_bm PySem.F.plainAttrs_list PySem.F.slot_list_append PySem.F.type_list_append mt_append (pe_dsetd (pe_fld (pv 0) (by rfl)) (pe_ix ix_tup (pv 1) pe_int (fun _ _ => rfl)) (pe_lst pa_nil) ⟨rfl, rfl, rfl, rfl⟩) (pa_cons (pe_tup (pa_cons (pe_ix ix_tup (pv 1) pe_int (fun _ _ => rfl)) (pa_cons (pe_op op_sub (pe_op op_add (pe_ix ix_tup (pv 1) pe_int (fun _ _ => rfl)) (pe_ix ix_tup (pv 1) pe_int (fun _ _ => rfl))) pe_int) pa_nil))) pa_nil)))) pss_nil) (pss_one (ps_ret (pe_tup (pa_cons pe_str pa_nil))))))))))), ?_⟩
    refine q_asg (P := fun u _ => u = .str pg.kind) (ev_of_str (ef_call (ea_cons (ef_var (i := 1) rfl f1) ea_nil) rfl)) fun v2 H1 s1 e2 => ?_
    subst e2
    have c1 := c.sm s1
    have f1 := f1.sm s1
    obtain ⟨kl, dl, el⟩ := c1.dl
    have tl : EvT (tB (tNIn P w (tVar 1) (tFld K (tVar 0) "lost"))) [some (.ref a.p), some v, some (.str pg.kind)] H1 (decide (pg ∈ lost)) := et_B (by
      have := ev_nin (P := P) (w := w) (σ := [some (.ref a.p), some v, some (.str pg.kind)]) (ef_var (i := 1) rfl f1) (c1.fld T (f := "lost") (v := .ref a.lA) (by simp) (fun _ _ _ _ => rfl) rfl) dl (IsKy.page pg)
      rw [lost_has el] at this
      exact this)
    refine seqi (s_if tl (fun hb H2 s2 => ?_) (fun hb H2 s2 => ?_))
    · have hb : pg ∈ lost := of_decide_eq_true hb
      have ep : s.put lost pg = (s, mIdle) := by
        unfold WS.put
        rw [if_pos hb]
      rw [ep] at q
      refine s_ret (ef_tup (ks := [.text "idle"]) (ea_cons ef_str ea_nil)) fun v3 H3 s3 f3 => ?_
      exact q v3 H3 own (.of_same ((s1.trans s2).trans s3)) (((c1.sm s2).sm s3).mono (Nat.le_succ n)) f3
    · have hb : pg ∉ lost := of_decide_eq_false hb
      have c2 := c1.sm s2
      have f2 := f1.sm s2
      have s2 := s1.trans s2
      have hgo := hgo hb
      dsimp only [tNext]
      have tk : ∀ {Hx : Hp} (j : Nat) {str : Str}, kindsL[j]? = some str → EvT (tTest (tOp rEq (tVar 2) (tC (.str str)))) [some (.ref a.p), some v, some (.str pg.kind)] Hx (decide (pg.kix = j)) := fun j _ e => (et_test (ev_eqS (ev_var rfl) ev_c)).of (kind_dec pg j _ e)
      have tgo : ∀ {Hx : Hp}, EvT (tTest (tOp (rInK K) (tVar 2) (tC (.ref aG)))) [some (.ref a.p), some v, some (.str pg.kind)] Hx (decide (pg.kix = 6) || decide (pg.kix = 7)) := (et_test (ev_inG (ef_of_str (ev_var rfl)) (by simp [NestedKey.depth]) ev_c T.sqG)).of (by
        rw [← kind_dec pg 6 "card" rfl, ← kind_dec pg 7 "visit" rfl]
        have e : (NestedKey.text pg.kind ∈ txs goingsL) ↔ (pg.kind = ("card" : Str) ∨ pg.kind = ("visit" : Str)) := by simp [txs, goingsL]
        simp [e])
      have thh : ∀ {Hx : Hp}, EvT (tTest (tOp (rInK K) (tVar 2) (tTup (tCons (tC (.str "house")) (tCons (tC (.str "home")) tNil))))) [some (.ref a.p), some v, some (.str pg.kind)] Hx (decide (pg.kix = 0) || decide (pg.kix = 3)) := (et_test (ev_inT (ef_of_str (ev_var rfl)) (by simp [NestedKey.depth]) (ef_tup (ks := [.text "house", .text "home"]) (ea_cons ef_str (ea_cons ef_str ea_nil))))).of (by
        rw [← kind_dec pg 0 "house" rfl, ← kind_dec pg 3 "home" rfl]
        simp)
      have ix : ∀ {Hx : Hp} {k : NestedKey} (n : Nat), Fz Hx v pg.key → pg.items[n]? = some k → EvF (tOp (rIxT K) (tVar 1) (tC (.int (n : Int)))) [some (.ref a.p), some v, some (.str pg.kind)] Hx k := fun n f e => pg_ix rfl f e
      have done : ∀ {Hx : Hp} {Dx : Ends}, (∀ u Hy, Same Hx Hy → Fz Hy u mDone → Dx.rt u Hy) → tRet (tTup (tCons (tC (.str "done")) tNil)) Dx [some (.ref a.p), some v, some (.str pg.kind)] Hx := fun h => s_ret (ef_tup (ks := [.text "done"]) (ea_cons ef_str ea_nil)) h
      have zh := c2.zh
      cases pg with
      | going vv d x y =>
        refine seqi (s_ifT (tgo.of (by cases vv <;> rfl)) fun H3 s3 => ?_)
        have ep : s.put lost (.going vv d x y) = s.go vv d x y := by
          unfold WS.put
          rw [if_neg hb]
        rw [ep] at q
        obtain ⟨n1, n2, n3, n4, ho⟩ := (c2.sm s3).o
        refine m_call (A := fun vs H2 => FzA H2 vs [Page.key (.going vv d x y)]) (ev_var rfl) ho (wf_no _ _ _ _ _ _ _ _ _ _ _ _ _ _ (by simp)) (ea_cons (ef_var rfl (f2.sm s3)) ea_nil) fun vs H4 s4 fa => ?_
        obtain ⟨u, rfl, fu⟩ := fa.one_inv
        exact ⟨a, own, g, lost, s, marks, n, u, vv, d, x, y, rfl, (c2.sm s3).sm s4, hn, fu, hgo vv d x y rfl, hso, nd, hz, fun v' H' own' st c' f' => q v' H' own' ((Step.of_same ((s2.trans s3).trans s4)).trans st) c' f'⟩
      | part d x y h =>
        have ep : s.put lost (.part d x y h) = ({ s with falls := partF s.falls x y, homes := aput s.homes y h }, mDone) := by
          unfold WS.put
          rw [if_neg hb]
        rw [ep] at q
        refine seqi (s_ifF tgo fun H3 s3 => seqi (s_ifT (tk 1 rfl) fun H4 s4 => seqi ?_))
        have s4 := s3.trans s4
        have c4 := c2.sm s4
        obtain ⟨n1, n2, n3, n4, ho⟩ := c4.o
        refine m_call (A := fun vs H2 => FzA H2 vs [.text x, .text y]) (ev_var rfl) ho (wf_no _ _ _ _ _ _ _ _ _ _ _ _ _ _ (by simp)) (ea_cons (ix 2 (f2.sm s4) rfl) (ea_cons (ix 3 (f2.sm s4) rfl) ea_nil)) fun vs H5 s5 fa => ?_
        obtain ⟨u1, u2, rfl, g1, g2⟩ := fa.two_inv
        obtain rfl := g1.str_inv
        obtain rfl := g2.str_inv
        refine ⟨a, own, g, lost, s, marks, n, x, y, rfl, c4.sm s5, hz, fun H6 own6 st6 c6 => ?_⟩
        dsimp only
        have st6' : TK H2 H6 := (TK.of_same (s4.trans s5)).trans st6.tk
        have st6 := (Step.of_same ((s2.trans s4).trans s5)).trans st6
        obtain ⟨kh, hkh, rkh⟩ := c6.dh
        have c6 := c6.mono (Nat.le_succ n)
        refine s_dput (P := fun v H => Fz H v (.tup (ik h))) kp_fz (ix 4 (f2.tk st6') rfl) (c6.fHomes T rfl) (ev_of_str (ix 3 (f2.tk st6') rfl)) hkh (by rw [rkh.length]; show s.homes.length < 100000; omega) fun v7 H7 s7 f7 => ?_
        obtain ⟨c8, st8⟩ := (c6.sm s7).setHo (kv := putK kh (kS y) v7) (l := aput s.homes y h) ((rkh.tk (.of_same s7)).put kS_inj f7) (Nat.le_trans (aput_length _ _ _) (by omega))
        have st8 := st6.trans ((Step.of_same s7).trans st8)
        dsimp only
        refine seqi (s_ifF (tk 2 rfl) fun H9 s9 => seqi (s_ifF thh fun H10 s10 => seqi (s_ifF (tk 4 rfl) fun H11 s11 => done fun u H12 s12 f12 => ?_)))
        have s12 := ((s9.trans s10).trans s11).trans s12
        exact q u H12 _ (st8.trans (.of_same s12)) (c8.sm s12) f12
      | join d x y =>
        have ep : s.put lost (.join d x y) = ({ s with falls := joinF s.falls x y }, mDone) := by
          unfold WS.put
          rw [if_neg hb]
        rw [ep] at q
        refine seqi (s_ifF tgo fun H3 s3 => seqi (s_ifF (tk 1 rfl) fun H4 s4 => seqi (s_ifT (tk 2 rfl) fun H5 s5 => ?_)))
        have s5 := (s3.trans s4).trans s5
        have c5 := c2.sm s5
        obtain ⟨n1, n2, n3, n4, ho⟩ := c5.o
        refine m_call (A := fun vs H2 => FzA H2 vs [.text x, .text y]) (ev_var rfl) ho (wf_no _ _ _ _ _ _ _ _ _ _ _ _ _ _ (by simp)) (ea_cons (ix 2 (f2.sm s5) rfl) (ea_cons (ix 3 (f2.sm s5) rfl) ea_nil)) fun vs H6 s6 fa => ?_
        obtain ⟨u1, u2, rfl, g1, g2⟩ := fa.two_inv
        obtain rfl := g1.str_inv
        obtain rfl := g2.str_inv
        refine ⟨a, own, g, lost, s, marks, n, x, y, rfl, c5.sm s6, hz, nd, fun H7 own7 st7 c7 => ?_⟩
        dsimp only
        have st7 := (Step.of_same ((s2.trans s5).trans s6)).trans st7
        refine seqi (s_ifF thh fun H10 s10 => seqi (s_ifF (tk 4 rfl) fun H11 s11 => done fun u H12 s12 f12 => ?_))
        have s12 := (s10.trans s11).trans s12
        exact q u H12 _ (st7.trans (.of_same s12)) ((c7.mono (Nat.le_succ n)).sm s12) f12
      | house d x h =>
        have ep : s.put lost (.house d x h) = ({ s with homes := aput s.homes x h }, mDone) := by
          unfold WS.put
          rw [if_neg hb]
        rw [ep] at q
        refine seqi (s_ifF tgo fun H3 s3 => seqi (s_ifF (tk 1 rfl) fun H4 s4 => seqi (s_ifF (tk 2 rfl) fun H5 s5 => seqi (s_ifT thh fun H6 s6 => ?_))))
        have s6 := ((s3.trans s4).trans s5).trans s6
        have c6 := (c2.sm s6).mono (Nat.le_succ n)
        obtain ⟨kh, hkh, rkh⟩ := c6.dh
        refine s_dput (P := fun v H => Fz H v (.tup (ik h))) kp_fz (ix 3 (f2.sm s6) rfl) (c6.fHomes T rfl) (ev_of_str (ix 2 (f2.sm s6) rfl)) hkh (by rw [rkh.length]; omega) fun v7 H7 s7 f7 => ?_
        obtain ⟨c8, st8⟩ := (c6.sm s7).setHo (kv := putK kh (kS x) v7) (l := aput s.homes x h) ((rkh.tk (.of_same s7)).put kS_inj f7) (Nat.le_trans (aput_length _ _ _) (by omega))
        have st8 := (Step.of_same ((s2.trans s6).trans s7)).trans st8
        dsimp only
        refine seqi (s_ifF (tk 4 rfl) fun H11 s11 => done fun u H12 s12 f12 => ?_)
        exact q u H12 _ (st8.trans (.of_same (s11.trans s12))) (c8.sm (s11.trans s12)) f12
      | home d x h =>
        have ep : s.put lost (.home d x h) = ({ s with homes := aput s.homes x h }, mDone) := by
          unfold WS.put
          rw [if_neg hb]
        rw [ep] at q
        refine seqi (s_ifF tgo fun H3 s3 => seqi (s_ifF (tk 1 rfl) fun H4 s4 => seqi (s_ifF (tk 2 rfl) fun H5 s5 => seqi (s_ifT thh fun H6 s6 => ?_))))
        have s6 := ((s3.trans s4).trans s5).trans s6
        have c6 := (c2.sm s6).mono (Nat.le_succ n)
        obtain ⟨kh, hkh, rkh⟩ := c6.dh
        refine s_dput (P := fun v H => Fz H v (.tup (ik h))) kp_fz (ix 3 (f2.sm s6) rfl) (c6.fHomes T rfl) (ev_of_str (ix 2 (f2.sm s6) rfl)) hkh (by rw [rkh.length]; omega) fun v7 H7 s7 f7 => ?_
        obtain ⟨c8, st8⟩ := (c6.sm s7).setHo (kv := putK kh (kS x) v7) (l := aput s.homes x h) ((rkh.tk (.of_same s7)).put kS_inj f7) (Nat.le_trans (aput_length _ _ _) (by omega))
        have st8 := (Step.of_same ((s2.trans s6).trans s7)).trans st8
        dsimp only
        refine seqi (s_ifF (tk 4 rfl) fun H11 s11 => done fun u H12 s12 f12 => ?_)
        exact q u H12 _ (st8.trans (.of_same (s11.trans s12))) (c8.sm (s11.trans s12)) f12
      | ahead d x y =>
        have ep : s.put lost (.ahead d x y) = (s, mDone) := by
          unfold WS.put
          rw [if_neg hb]
        rw [ep] at q
        refine seqi (s_ifF tgo fun H3 s3 => seqi (s_ifF (tk 1 rfl) fun H4 s4 => seqi (s_ifF (tk 2 rfl) fun H5 s5 => seqi (s_ifF thh fun H6 s6 => seqi (s_ifF (tk 4 rfl) fun H11 s11 => done fun u H12 s12 f12 => ?_)))))
        have s12 := ((((s3.trans s4).trans s5).trans s6).trans s11).trans s12
        exact q u H12 _ (.of_same (s2.trans s12)) ((c2.mono (Nat.le_succ n)).sm s12) f12
      | mourn d x m =>
        have ep : s.put lost (.mourn d x m) = ({ s with mourned := aput s.mourned x ((aget s.mourned x).getD [] ++ [(d, d + m - 1)]) }, mDone) := by
          unfold WS.put
          rw [if_neg hb]
        rw [ep] at q
        refine seqi (s_ifF tgo fun H3 s3 => seqi (s_ifF (tk 1 rfl) fun H4 s4 => seqi (s_ifF (tk 2 rfl) fun H5 s5 => seqi (s_ifF thh fun H6 s6 => seqi (s_ifT (tk 4 rfl) fun H7 s7 => ?_)))))
        have s7 := (((s3.trans s4).trans s5).trans s6).trans s7
        have c7 := (c2.sm s7).mono (Nat.le_succ n)
        have f7 := f2.sm s7
        have zl0 : ((aget s.mourned x).getD []).length ≤ n := by
          cases e : aget s.mourned x with
          | none => exact Nat.zero_le _
          | some l => exact c2.zl x l e
        have zm0 := c2.zm
        have fm : EvV (tFld K (tVar 0) "mourned") [some (.ref a.p), some v, some (.str (Page.kind (.mourn d x m)))] H7 (.ref a.mA) := c7.fld T (by simp) (fun _ _ _ _ => rfl) rfl
        unfold tDrop tBM tDSetd
        refine fm H7 (.refl _) _ fun u H8 s8 e8 => ?_
        obtain ⟨kv, hkv, rkv, inj⟩ := (c7.sm s8).dm
        refine ⟨a.mA, e8, .inl ⟨kv, .inl hkv⟩, ev_of_str (ix 2 (f7.sm s8) rfl) H8 (.refl _) _ fun y H9 s9 e9 => ⟨Nat.zero_le _, fun b hb => ?_⟩⟩
        have s10 := (s8.trans s9).trans (Same.new (o := .lst []) hb)
        have c10 := c7.sm s10
        have f10 := f7.sm s10
        have hkv10 := Same.new (o := .lst []) hb _ _ (s9 _ _ hkv)
        have pair : ∀ {Hx : Hp}, Fz Hx v (Page.key (.mourn d x m)) → EvF (tTup (tCons (tOp (rIxT K) (tVar 1) (tC (.int 1))) (tCons (tOp (rI0 fun i j => .int (i - j)) (tOp (rI0 fun i j => .int (i + j)) (tOp (rIxT K) (tVar 1) (tC (.int 1))) (tOp (rIxT K) (tVar 1) (tC (.int 3)))) (tC (.int 1))) tNil))) [some (.ref a.p), some v, some (.str (Page.kind (.mourn d x m)))] Hx (pairK (d, d + m - 1)) := fun f => ef_tup (ks := [.num d, .num (d + m - 1)]) (ea_cons (ix 1 f rfl) (ea_cons (ef_of_int (ev_I0 (g := fun i j => .int (i - j)) (ev_I0 (g := fun i j => .int (i + j)) (ev_of_int (ix 1 f rfl)) (ev_of_int (ix 3 f rfl))) ev_c)) ea_nil))
        refine ⟨kv, kS x, hkv10, e9, ?_, fun w1 hw1 => ?_, fun hnone => ?_⟩
        · rw [rkv.length]
          exact Nat.lt_of_le_of_lt (Nat.le_trans zm0 (by omega : n ≤ 900)) (by decide)
        · obtain ⟨kv', hkv', rkv', inj'⟩ := c10.dm
          rw [hkv10] at hkv'
          cases hkv'
          have hx0 : x ∈ s.mourned.map (·.1) := by rw [← aget_some, ← rkv'.isSome kS_inj x, hw1] <;> rfl
          obtain ⟨l, el⟩ := Option.isSome_iff_exists.mp (aget_some.mpr hx0)
          obtain ⟨v', hv', b', xs', ev', hb', fx, ob, nk, na⟩ := rkv'.some kS_inj el
          rw [hw1] at hv'
          cases hv'
          subst ev'
          rw [el] at zl0
          have lx : xs'.length ≤ n := by
            rw [fx.length, List.length_map]
            exact zl0
          refine ⟨.inl ⟨rfl, _, sqL_of hb'⟩, pair f10 _ (.refl _) _ fun v11 H11 s11 f11 => ⟨b', xs', v11, rfl, rfl, s11 _ _ hb', Nat.lt_of_le_of_lt (Nat.le_trans lx (by omega : n ≤ 900)) (by decide), ?_⟩⟩
          obtain ⟨c12, st12⟩ := (c10.sm s11).setM1 (e := (d, d + m - 1)) (x := x) (s11 _ _ hkv10) hw1 (s11 _ _ hb') f11 (by rw [el]; exact Nat.succ_le_succ zl0)
          have st12 := (Step.of_same ((s2.trans s7).trans (s10.trans s11))).trans st12
          dsimp only
          refine done fun u H13 s13 f13 => ?_
          exact q u H13 _ (st12.trans (.of_same s13)) (c12.sm s13) f13
        · have hn0 : aget s.mourned x = none := by
            have := rkv.isSome kS_inj x
            rw [hnone] at this
            cases e : aget s.mourned x with
            | none => rfl
            | some => rw [e] at this; cases this
          have nb : ¬ own b := fun z => c7.ol b z (s8.free (s9.free hb))
          obtain ⟨c11, st11⟩ := c10.setM2 hkv10 hn0 upd_same nb (Nat.succ_le_succ zm0)
          have st11 := st11 H (.of_same ((s2.trans s7).trans s10)) (s2.free (s7.free (s8.free (s9.free hb))))
          have nbm : b ≠ a.mA := fun z => nb (z ▸ c10.ow _ (by simp))
          have hb11 : upd (upd H9 b (.lst [])) a.mA (.dK (putK kv (kS x) (.ref b))) b = some (.lst []) := by rw [upd_ne nbm, upd_same]
          have tk11 : TK (upd H9 b (.lst [])) (upd (upd H9 b (.lst [])) a.mA (.dK (putK kv (kS x) (.ref b)))) := TK.upd fun xs z => by rw [hkv10] at z; cases z
          refine ⟨.inl ⟨rfl, _, sqL_of hb11⟩, pair (f10.tk tk11) _ (.refl _) _ fun v11 H11 s11 f11 => ⟨b, [], v11, rfl, rfl, s11 _ _ hb11, by decide, ?_⟩⟩
          obtain ⟨c12, st12⟩ := (c11.sm s11).setM1 (e := (d, d + m - 1)) (x := x) (b := b) (s11 _ _ upd_same) (by rw [valV_put, if_pos rfl]) (s11 _ _ hb11) f11 (by
            show ((aget (aput s.mourned x []) x).getD []).length + 1 ≤ n + 1
            rw [aget_put, if_pos rfl]
            show 0 + 1 ≤ n + 1
            omega)
          have st12 := st11.trans ((Step.of_same s11).trans st12)
          dsimp only
          refine done fun u H13 s13 f13 => ?_
          refine q u H13 _ (st12.trans (.of_same s13)) ?_ f13
          have e : aput (aput s.mourned x []) x ((aget (aput s.mourned x []) x).getD [] ++ [(d, d + m - 1)]) = aput s.mourned x ((aget s.mourned x).getD [] ++ [(d, d + m - 1)]) := by
            rw [aget_put, if_pos rfl, hn0, aput_aput] <;> rfl
          have c13 := c12.sm s13
          have e2 : ({ s with mourned := aput (aput s.mourned x []) x ((aget (aput s.mourned x []) x).getD [] ++ [(d, d + m - 1)]) } : WS) = { s with mourned := aput s.mourned x ((aget s.mourned x).getD [] ++ [(d, d + m - 1)]) } := by rw [e]
          rw [← e2]
          exact c13
end
end K34
namespace K34
open PySem PySem.Spec L2

/-- all but p stays -/
structure Kp (p : Addr) (H H' : Hp) : Prop where
  keep : ∀ b o, H b = some o → b ≠ p → H' b = some o
  live : ∀ b, H' b = none → H b = none
theorem Kp.trans {p : Addr} {H H1 H2 : Hp} (a : Kp p H H1) (b : Kp p H1 H2) : Kp p H H2 := ⟨fun x o e n => b.keep x o (a.keep x o e n) n, fun x h => a.live x (b.live x h)⟩
theorem Kp.of_same {p : Addr} {H H' : Hp} (s : Same H H') : Kp p H H' := ⟨fun b o e _ => s b o e, fun b h => s.free h⟩
theorem Kp.upd {p : Addr} {H : Hp} {o u : HO} (h : H p = some u) : Kp p H (upd H p o) := ⟨fun b q e n => by rw [upd_ne n]; exact e, fun b e => by
  by_cases z : b = p
  · rw [z, upd_same] at e; cases e
  · rw [upd_ne z] at e; exact e⟩
theorem Kp.tk {p C dx : Addr} {fs : List (Str × V)} {H H' : Hp} (k : Kp p H H') (h : H p = some (.ins C dx fs)) : TK H H' := fun a xs e => k.keep a _ e fun z => by
  rw [z, h] at e
  cases e
theorem Kp.dw {P : Program} {w : World} {p C dx d : Addr} {fs : List (Str × V)} {H H' : Hp} {kvs : List (NestedKey × V)} (k : Kp p H H') (h : H p = some (.ins C dx fs)) (dw : DW P w H d kvs) : DW P w H' d kvs := by
  obtain ⟨φ, e⟩ := dw.ho
  have n : d ≠ p := ne_of e h (fun z => by cases z)
  exact dw.keep (by rw [k.keep _ _ e n, e]) (k.tk h)
section
variable {P : Program} {w : World} {K : PySem.W.Frag} {mg : Str → Option Value} {base : Heap} {CH CW aK aA aG : Addr} {H H' : Hp} {a : WA} {own : Addr → Prop} {g : WG} {lost : List Page} {s : WS} {marks : List (Page × NestedKey)} {n : Nat} {σ : St} {tg : TG} {tu tz : TS} {D : Ends} {C dx p : Addr} {fs : List (Str × V)} {f : Str} {v : V} {tv : TE}
theorem q_fldE (hv : EvV tv σ H v) (h0 : σ[0]? = some (some (.ref p))) (ho : H p = some (.ins C dx fs)) (cl : Cls K C) (na : NoAttr K C f) (hz : fs.length < 900) (k : ∀ H', Kp p H H' → H' p = some (.ins C dx (putF f v fs)) → tz D σ H') : tSeq (sFld K (tVar 0) tv f) tz D σ H :=
  seqi (s_fldV (P := fun u _ => u = v) kp_ev hv (ev_var h0) ho cl na hz fun u H1 s1 e => by
    subst e
    exact k _ ((Kp.of_same s1).trans (.upd (s1 _ _ ho))) upd_same)
theorem s_fldE (hv : EvV tv σ H v) (h0 : σ[0]? = some (some (.ref p))) (ho : H p = some (.ins C dx fs)) (cl : Cls K C) (na : NoAttr K C f) (hz : fs.length < 900) (k : ∀ H', Kp p H H' → H' p = some (.ins C dx (putF f v fs)) → D.nx σ H') : sFld K (tVar 0) tv f D σ H :=
  s_fldV (P := fun u _ => u = v) kp_ev hv (ev_var h0) ho cl na hz fun u H1 s1 e => by
    subst e
    exact k _ ((Kp.of_same s1).trans (.upd (s1 _ _ ho))) upd_same
def spWInit (P : Program) (w : World) (CW : Addr) : Sp := fun vs H Q _ => ∃ p dx vB vT book terms, vs = [.ref p, vB, vT] ∧ H p = some (.ins CW dx []) ∧ Fz H vB (.tup (book.map Page.key)) ∧ Fz H vT (.tup [.num (Prod.fst terms), .num (Prod.snd terms)]) ∧
  ∀ H' a own, WA.p a = p → Kp p H H' → (∀ b, own b → b = p ∨ H b = none) → WC P w CW H' a own ⟨book, terms⟩ [] ⟨[], [], [], []⟩ [] 0 → Q .non H'
theorem wf_init (vB vT : V) (lA hA mA sA fA kA aA : Addr) : putF "merged" (.int 0) (putF "struck" (.int 0) (putF "copied" (.int 0) (putF "made" (.int 0) (putF "answers" (.ref aA) (putF "marks" (.ref kA) (putF "falls" (.ref fA) (putF "sorts" (.ref sA) (putF "mourned" (.ref mA) (putF "homes" (.ref hA) (putF "lost" (.ref lA) (putF "own_terms" vT (putF "own_pages" vB [])))))))))))) = wf vB vT lA hA mA sA fA kA aA 0 0 0 0 := rfl
theorem sc_Walk_init : FnScope ["self", "book", "terms"] ["self", "book", "terms"] (defScope s_Walk_init) := ⟨rfl, rfl, rfl, by decide +kernel, rfl, by decide +kernel, by decide +kernel⟩
theorem ok_winit (T : Txt K mg CH CW aK aA aG) (D : Cat K mg CW "Walk" "Walk.__init__" s_Walk_init ["self", "book", "terms"]) : COK P w K mg base 1 CW "Walk" ["self", "book", "terms"] (spWInit P w CW) := by
  refine cok_mk D sc_Walk_init (fun vs H Q E h => ?_) (fun f cdv A outer s H vs Q E hr h => ?_)
  · obtain ⟨p, dx, vB, vT, book, terms, rfl, _⟩ := h
    rfl
  · obtain ⟨p, dx, vB, vT, book, terms, rfl, ho, fB, fT, q⟩ := h
    refine ⟨_, (pss_cons (ps_fld (pv 0) (pv 1) rfl) (pss_cons (ps_fld (pv 0) (pv 2) rfl) (pss_cons (ps_fld (pv 0) pe_nnew rfl) (pss_cons (ps_fld (pv 0) pe_dnewK rfl) (pss_cons (ps_fld (pv 0) pe_dnewK rfl) (pss_cons (ps_fld (pv 0) pe_nnew rfl) (pss_cons (ps_fld (pv 0) pe_nnew rfl) (pss_cons (ps_fld (pv 0) (pe_lst pa_nil) rfl) (pss_cons (ps_fld (pv 0) (pe_lst pa_nil) rfl) (pss_cons (ps_fld (pv 0) pe_int rfl) (pss_cons (ps_fld (pv 0) pe_int rfl) (pss_cons (ps_fld (pv 0) pe_int rfl) (pss_one (ps_fld (pv 0) pe_int rfl)))))))))))))), ?_⟩
    refine q_fldE (ev_var (i := 1) rfl) rfl ho T.clW (T.noW _ (by simp)) (by (repeat apply putF_lt); decide) fun H1 k1 o1 => ?_
    refine q_fldE (ev_var (i := 2) rfl) rfl o1 T.clW (T.noW _ (by simp)) (by (repeat apply putF_lt); decide) fun H2 k2 o2 => ?_
    refine q_fldN o2 T.clW (T.noW _ (by simp)) (by (repeat apply putF_lt); decide) rfl fun a3 H3 n3 o3 d3 k3 l3 => ?_
    refine q_fldK o3 T.clW (T.noW _ (by simp)) (by (repeat apply putF_lt); decide) rfl fun a4 H4 n4 o4 d4 k4 l4 => ?_
    refine q_fldK o4 T.clW (T.noW _ (by simp)) (by (repeat apply putF_lt); decide) rfl fun a5 H5 n5 o5 d5 k5 l5 => ?_
    refine q_fldN o5 T.clW (T.noW _ (by simp)) (by (repeat apply putF_lt); decide) rfl fun a6 H6 n6 o6 d6 k6 l6 => ?_
    refine q_fldN o6 T.clW (T.noW _ (by simp)) (by (repeat apply putF_lt); decide) rfl fun a7 H7 n7 o7 d7 k7 l7 => ?_
    refine q_fldL o7 T.clW (T.noW _ (by simp)) (by (repeat apply putF_lt); decide) rfl fun a8 H8 n8 o8 d8 k8 l8 => ?_
    refine q_fldL o8 T.clW (T.noW _ (by simp)) (by (repeat apply putF_lt); decide) rfl fun a9 H9 n9 o9 d9 k9 l9 => ?_
    refine q_fldE (v := .int 0) ev_c rfl o9 T.clW (T.noW _ (by simp)) (by (repeat apply putF_lt); decide) fun H10 k10 o10 => ?_
    refine q_fldE (v := .int 0) ev_c rfl o10 T.clW (T.noW _ (by simp)) (by (repeat apply putF_lt); decide) fun H11 k11 o11 => ?_
    refine q_fldE (v := .int 0) ev_c rfl o11 T.clW (T.noW _ (by simp)) (by (repeat apply putF_lt); decide) fun H12 k12 o12 => ?_
    refine s_fldE (v := .int 0) ev_c rfl o12 T.clW (T.noW _ (by simp)) (by (repeat apply putF_lt); decide) fun H13 k13 o13 => ?_
    rw [wf_init] at o13
    have K9 : Kp p H9 H13 := ((k10.trans k11).trans k12).trans k13
    have K8 : Kp p H8 H13 := Kp.trans ⟨k9, l9⟩ K9
    have K7 : Kp p H7 H13 := Kp.trans ⟨k8, l8⟩ K8
    have K6 : Kp p H6 H13 := Kp.trans ⟨k7, l7⟩ K7
    have K5 : Kp p H5 H13 := Kp.trans ⟨k6, l6⟩ K6
    have K4 : Kp p H4 H13 := Kp.trans ⟨k5, l5⟩ K5
    have K3 : Kp p H3 H13 := Kp.trans ⟨k4, l4⟩ K4
    have K02 : Kp p H H2 := k1.trans k2
    have K03 : Kp p H H3 := K02.trans ⟨k3, l3⟩
    have K04 : Kp p H H4 := K03.trans ⟨k4, l4⟩
    have K05 : Kp p H H5 := K04.trans ⟨k5, l5⟩
    have K06 : Kp p H H6 := K05.trans ⟨k6, l6⟩
    have K07 : Kp p H H7 := K06.trans ⟨k7, l7⟩
    have K08 : Kp p H H8 := K07.trans ⟨k8, l8⟩
    have K0 : Kp p H H13 := K03.trans K3
    have K36 : Kp p H3 H6 := (Kp.trans ⟨k4, l4⟩ ⟨k5, l5⟩).trans ⟨k6, l6⟩
    have e4 : H13 a4 = some (.dK []) := K4.keep _ _ d4 (ne_of d4 o4 (fun z => by cases z))
    have e5 : H13 a5 = some (.dK []) := K5.keep _ _ d5 (ne_of d5 o5 (fun z => by cases z))
    have e8 : H13 a8 = some (.lst []) := K8.keep _ _ d8 (ne_of d8 o8 (fun z => by cases z))
    have e9 : H13 a9 = some (.lst []) := K9.keep _ _ d9 (ne_of d9 o9 (fun z => by cases z))
    have e3 := K3.dw o3 d3
    have e6 := K6.dw o6 d6
    have e7 := K7.dw o7 d7
    have tk := K0.tk ho
    refine q H13 ⟨p, dx, vB, vT, a3, a4, a5, a6, a7, a8, a9⟩ (fun b => b ∈ [p, a3, a4, a5, a6, a7, a8, a9]) rfl K0 (fun b hb => ?_) ?_
    · simp only [List.mem_cons, List.not_mem_nil, or_false] at hb
      rcases hb with h | h | h | h | h | h | h | h
      · exact .inl h
      · exact .inr (by rw [h]; exact K02.live _ n3)
      · exact .inr (by rw [h]; exact K03.live _ n4)
      · exact .inr (by rw [h]; exact K04.live _ n5)
      · exact .inr (by rw [h]; exact K05.live _ n6)
      · exact .inr (by rw [h]; exact K06.live _ n7)
      · exact .inr (by rw [h]; exact K07.live _ n8)
      · exact .inr (by rw [h]; exact K08.live _ n9)
    · refine { o := ⟨_, _, _, _, o13⟩, fb := fB.tk tk, ft := fT.tk tk, dl := ⟨[], e3, rfl⟩, dh := ⟨[], e4, .nil⟩, dm := ⟨[], e5, .nil, fun x y b h => by cases h⟩, ds := ⟨[], e6, .nil⟩, df := ⟨[], e7, .nil⟩, dk := ⟨[], e8, .nil⟩, da := ⟨[], e9, Nat.le_refl _⟩, nm := .nil, zh := Nat.le_refl _, zm := Nat.le_refl _, zl := (fun x l h => by cases h), zs := Nat.le_refl _, zk := Nat.le_refl _, ow := fun b hb => hb, ol := fun b hb z => ?_, nhm := ?_, nls := ?_, nlf := ?_, nsf := ?_, nka := ?_ }
      · simp only [List.mem_cons, List.not_mem_nil, or_false] at hb
        obtain ⟨f3, g3⟩ := e3.ho
        obtain ⟨f6, g6⟩ := e6.ho
        obtain ⟨f7, g7⟩ := e7.ho
        rcases hb with h | h | h | h | h | h | h | h <;> subst h
        · rw [o13] at z; cases z
        · rw [g3] at z; cases z
        · rw [e4] at z; cases z
        · rw [e5] at z; cases z
        · rw [g6] at z; cases z
        · rw [g7] at z; cases z
        · rw [e8] at z; cases z
        · rw [e9] at z; cases z
      · exact ne_of_none d4 n5
      · obtain ⟨f3, g3⟩ := d3.ho
        exact ne_of_none ((Kp.trans ⟨k4, l4⟩ ⟨k5, l5⟩ : Kp p H3 H5).keep _ _ g3 (ne_of g3 o3 (fun z => by cases z))) n6
      · obtain ⟨f3, g3⟩ := d3.ho
        exact ne_of_none (K36.keep _ _ g3 (ne_of g3 o3 (fun z => by cases z))) n7
      · obtain ⟨f6, g6⟩ := d6.ho
        exact ne_of_none g6 n7
      · exact ne_of_none d8 n9
end
end K34
namespace K34
open PySem PySem.Spec L2

abbrev Marks := List (Page × NestedKey)
def putStep (lost : List Page) (st : WS × Marks) (p : Page) : WS × Marks := ((st.1.put lost p).1, st.2 ++ [(p, (st.1.put lost p).2)])
def onDay (qs : List Page) (X : Int) : List Page := qs.filter fun p => decide (p.day = X)
def dayRun (lost : List Page) (t : Int × Int) (qs : List Page) (st : WS × Marks) (X : Int) : WS × Marks :=
  ((((onDay qs X).foldl (putStep lost) st).1.fall t X), ((onDay qs X).foldl (putStep lost) st).2)
def run0 : WS × Marks := (⟨[], [], [], []⟩, [])
def runN (lost : List Page) (t : Int × Int) (qs : List Page) (first : Int) : Nat → WS × Marks
  | 0 => run0
  | n + 1 => dayRun lost t qs (runN lost t qs first n) (first + n)
def firstDay (qs : List Page) (last : Int) : Int := match qs with
  | [] => last + 1
  | p :: _ => p.day
structure Fit (s : WS) : Prop where
  so : ∀ e ∈ s.falls.map (·.1), (aget s.sorts e.page).isSome = true
  nd : (s.falls.map (·.1)).Nodup
  len : s.falls.length ≤ 40000
  lens : ∀ e ∈ s.falls, e.2.length ≤ 5000
def stAt (lost : List Page) (t : Int × Int) (qs : List Page) (first : Int) (i j : Nat) : WS × Marks := ((onDay qs (first + i)).take j).foldl (putStep lost) (runN lost t qs first i)
/-- nothing is missing on the way -/
def RunOk (lost : List Page) (t : Int × Int) (qs : List Page) (first : Int) (N : Nat) : Prop := ∀ i, i < N → ∀ j, j ≤ (onDay qs (first + i)).length → Fit (stAt lost t qs first i j).1 ∧ ∀ p, (onDay qs (first + i))[j]? = some p → p ∉ lost → ∀ vv d x y, p = .going vv d x y → (aget (stAt lost t qs first i j).1.homes y).isSome = true
abbrev Sorted (qs : List Page) : Prop := qs.Pairwise fun a b => a.day ≤ b.day
theorem split_day {qs : List Page} (h : Sorted qs) (X : Int) : qs = (qs.filter fun p => decide (p.day < X)) ++ (onDay qs X ++ qs.filter fun p => decide (X < p.day)) := by
  induction qs with
  | nil => rfl
  | cons p qs ih =>
    have h := List.pairwise_cons.mp h
    have ih := ih h.2
    unfold onDay at ih ⊢
    rcases Int.lt_trichotomy p.day X with l | l | l
    · rw [List.filter_cons_of_pos (by simpa using l), List.filter_cons_of_neg (by simp; omega), List.filter_cons_of_neg (by simp; omega), List.cons_append, ← ih]
    · have e : qs.filter (fun p => decide (p.day < X)) = [] := List.filter_eq_nil_iff.mpr fun a ha => by have := h.1 a ha; simp; omega
      rw [e] at ih
      rw [List.filter_cons_of_neg (by simp; omega), List.filter_cons_of_pos (by simpa using l), List.filter_cons_of_neg (by simp; omega), e, List.nil_append, List.cons_append]
      rw [List.nil_append] at ih
      rw [← ih]
    · have e : qs.filter (fun p => decide (p.day < X)) = [] := List.filter_eq_nil_iff.mpr fun a ha => by have := h.1 a ha; simp; omega
      have e2 : qs.filter (fun p => decide (p.day = X)) = [] := List.filter_eq_nil_iff.mpr fun a ha => by have := h.1 a ha; simp; omega
      rw [e, e2] at ih
      rw [List.filter_cons_of_neg (by simp; omega), List.filter_cons_of_neg (by simp; omega), List.filter_cons_of_pos (by simpa using l), e, e2, List.nil_append, List.nil_append]
      rw [List.nil_append, List.nil_append] at ih
      rw [← ih]
def below (qs : List Page) (X : Int) : Nat := (qs.filter fun p => decide (p.day < X)).length
theorem below_succ (qs : List Page) (X : Int) : below qs (X + 1) = below qs X + (onDay qs X).length := by
  unfold below onDay
  induction qs with
  | nil => rfl
  | cons p qs ih =>
    rcases Int.lt_trichotomy p.day X with l | l | l
    · rw [List.filter_cons_of_pos (by simp; omega), List.filter_cons_of_pos (by simpa using l), List.filter_cons_of_neg (by simp; omega), List.length_cons, List.length_cons]
      omega
    · rw [List.filter_cons_of_pos (by simp; omega), List.filter_cons_of_neg (by simp; omega), List.filter_cons_of_pos (by simpa using l), List.length_cons, List.length_cons]
      omega
    · rw [List.filter_cons_of_neg (by simp; omega), List.filter_cons_of_neg (by simp; omega), List.filter_cons_of_neg (by simp; omega)]
      exact ih
theorem at_day {qs : List Page} (h : Sorted qs) (X : Int) {j : Nat} (hj : j ≤ (onDay qs X).length) : qs[below qs X + j]? = ((onDay qs X ++ qs.filter fun p => decide (X < p.day)))[j]? := by
  have e := split_day h X
  refine (congrArg (fun l : List Page => l[below qs X + j]?) e).trans ?_
  show ((qs.filter fun p => decide (p.day < X)) ++ (onDay qs X ++ qs.filter fun p => decide (X < p.day)))[below qs X + j]? = _
  unfold below
  rw [List.getElem?_append_right (by omega)]
  congr 1
  omega
section
variable {P : Program} {w : World} {K : PySem.W.Frag} {mg : Str → Option Value} {base : Heap} {CH CW aK aA aG : Addr} {H H' : Hp} {a : WA} {own : Addr → Prop} {g : WG} {lost : List Page} {s : WS} {marks : List (Page × NestedKey)} {n : Nat} {σ : St} {ta tb : TE} {x y : V}
theorem ea_two (h1 : EvV ta σ H x) (h2 : EvV tb σ H y) : EvA (tCons ta (tCons tb tNil)) σ H fun vs _ => vs = [x, y] := fun H1 s Q q => h1 H1 s _ fun u H2 s2 e => h2 H2 (s.trans s2) _ fun v H3 s3 e2 => by
  subst e e2
  exact q _ H3 (s2.trans s3) rfl
theorem ep_callE {sp : Sp} {E : XK} {t : TA} {A : List V → Hp → Prop} {R : V → Hp → Prop} (ha : EvA t σ H A) (k : ∀ vs H1, Same H H1 → A vs H1 → ∀ Q : VK, (∀ v H2, Same H1 H2 → R v H2 → Q v H2) → sp (vs ++ []) H1 Q E) : EvP (tCall sp [] E t) σ H R := fun H1 s Q q => ha H1 s _ fun vs H2 s2 av => k vs H2 (s.trans s2) av Q fun v H3 s3 r => q v H3 (s2.trans s3) r
def spGoTo (P : Program) (w : World) (CW : Addr) : Sp := fun vs H Q _ => ∃ a own g last, vs = [.ref (WA.p a), .int last] ∧ WC P w CW H a own g [] ⟨[], [], [], []⟩ [] 0 ∧ g.book.length ≤ 800 ∧ Sorted g.book ∧ (behind (upTo g.book last)).idle.Nodup ∧ (behind (upTo g.book last)).idle.length ≤ 800 ∧ (-(2 ^ 60) ≤ last ∧ last ≤ 2 ^ 60) ∧ (∀ p ∈ g.book, -(2 ^ 60) ≤ p.day) ∧
  RunOk (behind (upTo g.book last)).idle g.terms (upTo g.book last) (firstDay (upTo g.book last) last) (last + 1 - firstDay (upTo g.book last) last).toNat ∧
  ∀ H' own', Step own H own' H' → (∃ r, r = runN (behind (upTo g.book last)).idle g.terms (upTo g.book last) (firstDay (upTo g.book last) last) (last + 1 - firstDay (upTo g.book last) last).toNat ∧ WC P w CW H' a own' g (behind (upTo g.book last)).idle r.1 r.2 900) → Q .non H'
theorem sc_Walk_go_to : FnScope ["self", "last", "pages", "page", "at", "first", "day"] ["self", "last"] (defScope s_Walk_go_to) := ⟨rfl, rfl, rfl, by decide +kernel, rfl, by decide +kernel, by decide +kernel⟩
theorem ok_go_to (T : Txt K mg CH CW aK aA aG) (D : Mat K CW "go_to" "Walk.go_to" s_Walk_go_to ["self", "last"]) (G_page_day : OK P w K mg base 1 "page_day" ["page"] (fsp (r_at 1))) (G_idle : OK P w K mg base 9 "idle" ["book", "day"] (spIdle K)) (M_put : MOK P w K mg base 8 CW "put" ["self", "page"] (spPut P w CW)) (M_fall : MOK P w K mg base 4 CW "fall" ["self", "day"] (spFall P w CW)) :
    MOK P w K mg base 11 CW "go_to" ["self", "last"] (spGoTo P w CW) := by
  refine mok_mk D sc_Walk_go_to (fun vs H Q E h => ?_) (fun f cdv A outer s H vs Q E hr h => ?_)
  · obtain ⟨a, own, g, last, rfl, _⟩ := h
    rfl
  · obtain ⟨a, own, g, last, rfl, c, hz, hso, hni, hzi, hb, hbp, hrun, q⟩ := h
    have hu := hr.units
    have hu0 := hr.units0
    have hu1 : _ + 1 < cLine := Nat.lt_of_le_of_lt (Nat.add_le_add_left (by decide : 1 ≤ 64) _) hu
    refine ⟨_, (pss_cons (ps_setLc (i := 2) (own := [("page", 3)]) rfl sc_Walk_go_to.nd rfl rfl (sw_true rfl rfl rfl (by decide +kernel)) (pi_tup (pe_fld (pv 0) (by rfl))) (blkOk_by (own := [("page", 3)]) (N := ["self", "last", "pages", "page", "at", "first", "day"]) (sc := defScope s_Walk_go_to) (by decide +kernel)) (fun _ _ _ _ _ => (pg_name (i := 3) sc_Walk_go_to.nd rfl (Or.inl rfl))) (fun _ _ _ _ _ => (pts_one (pt_cmpR op_le (px_call G_page_day (hr.mono (by decide)) (by rfl) (pa_cons (pv 3) pa_nil)) (pv 1) (nomark _)))) (fun _ _ _ _ _ => (pv 3))) (pss_cons (ps_for PassesOwn.never rfl (pi_list (px_call G_idle (hr.mono (by decide)) (by rfl) (pa_cons (pe_fld (pv 0) (by rfl)) (pa_cons (pv 1) pa_nil)))) (pg_name (i := 3) sc_Walk_go_to.nd rfl (Or.inl rfl)) (pss_one (ps_nput hu (pe_fld (pv 0) (by rfl)) (pv 3) pe_bl rfl))) (pss_cons (ps_set (i := 4) sc_Walk_go_to.nd rfl (Or.inl rfl) pe_int) (pss_cons (ps_set (i := 5) sc_Walk_go_to.nd rfl (Or.inl rfl) (pe_ifExp (pt_cmpR (op_neN hu) (pv 2) (pe_lst pa_nil) (nomark _)) (px_call G_page_day (hr.mono (by decide)) (by rfl) (pa_cons (pe_ix ix_list (pv 2) pe_int (fun _ _ => rfl)) pa_nil)) (pe_op op_add (pv 1) pe_int))) (pss_one (ps_for PassesOwn.never rfl (pi_range2 (by rfl) T.range (pa_cons (pv 5) (pa_cons (pe_op op_add (pv 1) pe_int) pa_nil))) (pg_name (i := 6) sc_Walk_go_to.nd rfl (Or.inl rfl)) (pss_cons (ps_while PassesOwn.never (pw_and (pt_cmpR op_lt (pv 4) (pe_callB call_lenK (by rfl) T.len b_len (pa_cons (pv 2) pa_nil)) (nomark _)) (pw_and1 (pt_cmpR op_eq (px_call G_page_day (hr.mono (by decide)) (by rfl) (pa_cons (pe_ix ix_list (pv 2) (pv 4) (fun _ _ => rfl)) pa_nil)) (pv 6) (nomark _)))).pt (pss_cons (ps_expr (pe_bm PySem.F.plainAttrs_list PySem.F.slot_list_append PySem.F.type_list_append mt_append (pe_fld (pv 0) (by rfl)) (pa_cons (pe_tup (pa_cons (pe_ix ix_list (pv 2) (pv 4) (fun _ _ => rfl)) (pa_cons (px_meth T.clW M_put (hr.mono (by decide)) (pv 0) (pa_cons (pe_ix ix_list (pv 2) (pv 4) (fun _ _ => rfl)) pa_nil)) pa_nil))) pa_nil))) (pss_one (ps_set (i := 4) sc_Walk_go_to.nd rfl (Or.inl rfl) (pe_op op_add (pv 4) pe_int))))) (pss_one (ps_expr (px_meth T.clW M_fall (hr.mono (by decide)) (pv 0) (pa_cons (pv 6) pa_nil))))))))))), ?_⟩
    have fB : ∀ {H1 : Hp} {σ : St} {own1 : Addr → Prop} {lost1 : List Page} {s1 : WS} {ms : Marks} {n1 : Nat}, WC P w CW H1 a own1 g lost1 s1 ms n1 → σ[0]? = some (some (.ref a.p)) → EvF (tFld K (tVar 0) "own_pages") σ H1 (.tup (g.book.map Page.key)) := fun c1 h0 => (c1.fld T (by simp) (fun _ _ _ _ => rfl) h0).imp fun v H2 s2 e => by subst e; exact c1.fb.sm s2
    refine q_asg (P := fun v H2 => LW H H2 v ((upTo g.book last).map Page.key)) ((el_lcT (fun k => decide (dayOf k ≤ last)) id (fB c rfl) (by rw [List.length_map]; omega) (fun _ => rfl) (fun x k H1 hk s1 fx => ?_) (fun x k H1 hk s1 fx _ => ef_var rfl fx)).imp fun v H2 s2 h => ?_) fun v2 H1 s1 lw => ?_
    · obtain ⟨p, _, rfl⟩ := List.mem_map.mp hk
      exact et_test (ev_I0 (g := fun i j => .bl (decide (i ≤ j))) (ev_of_int (ef_call (k := .num p.day) (ea_cons (ef_var rfl fx) ea_nil) rfl)) (ev_var rfl))
    · rw [List.map_id, filter_day g.book fun i => decide (i ≤ last)] at h
      exact h
    obtain ⟨L, ys, rfl, hnL, hL1, fL1⟩ := lw
    have nL : ¬ own L := fun z => c.ol _ z hnL
    have hqs : ∀ p ∈ upTo g.book last, p ∈ g.book ∧ p.day ≤ last := fun p hp => by
      unfold upTo at hp
      rw [List.mem_filter] at hp
      exact ⟨hp.1, of_decide_eq_true hp.2⟩
    have hlq : (upTo g.book last).length ≤ 800 := Nat.le_trans (List.length_filter_le _ _) hz
    have hsq : Sorted (upTo g.book last) := hso.sublist List.filter_sublist
    have c1 := c.sm s1
    have hidle : EvP (tCall (spIdle K) [] E0 (tCons (tFld K (tVar 0) "own_pages") (tCons (tVar 1) tNil))) [some (.ref a.p), some (.int last), some (.ref L), none, none, none, none] H1 (fun v H2 => LW H1 H2 v ((behind (upTo g.book last)).idle.map Page.key)) := ep_callE (A := fun vs H2 => FzA H2 vs [.tup (g.book.map Page.key), .num last]) (ea_cons (fB c1 rfl) (ea_cons (ef_of_int (ev_var rfl)) ea_nil)) fun vs H2 s2 fa Q2 q2 => by
      obtain ⟨u1, u2, rfl, g1, g2⟩ := fa.two_inv
      obtain rfl := g2.int_inv
      exact ⟨u1, g.book, last, rfl, g1, hz, fun v' H4 s4 lw => q2 v' H4 s4 (lw.back s2)⟩
    generalize elo : (behind (upTo g.book last)).idle = lost at *
    generalize eqs : upTo g.book last = qs at *
    refine seqi (s_forW hidle fun L2 ys2 H2 s2 hnL2 hL2 fL2 => ?_)
    have nL2 : ¬ own L2 := fun z => c1.ol _ z hnL2
    refine ⟨fun i σ' H' => (∃ z, σ' = [some (.ref a.p), some (.int last), some (.ref L), z, none, none, none]) ∧ Step own H2 own H' ∧ WC P w CW H' a own g (lost.take i) ⟨[], [], [], []⟩ [] 0, ⟨⟨_, rfl⟩, .refl _ _, c1.sm s2⟩, fun i σ' H' ⟨_, st, _⟩ => ⟨st.tk, st.keep _ _ hL2 nL2⟩, fun i j u σ' H' hj fj ⟨⟨z, hz'⟩, st, ci⟩ => ?_, fun σ' H' ⟨⟨z, hz'⟩, st, ci⟩ => ?_⟩
    · subst hz'
      rw [List.getElem?_map] at hj
      obtain ⟨p, hp, rfl⟩ := Option.map_eq_some_iff.mp hj
      obtain ⟨kv, dw, ek⟩ := ci.dl
      have hn : p.key ∉ kv.map (·.1) := by
        rw [ek, key_mem]
        exact nodup_take hni hp
      have hlen : kv.length < 100000 := by
        have := congrArg List.length ek
        rw [List.length_map, List.length_map, List.length_take] at this
        omega
      refine s_nput (R := fun _ _ => True) (fun _ _ _ _ h => h) ((ev_c (v := .bl true)).imp fun _ _ _ _ => trivial) (ci.fld T (f := "lost") (v := .ref a.lA) (by simp) (fun _ _ _ _ => rfl) rfl) (ef_var (i := 3) rfl fj) dw (IsKy.page p) hlen fun v3 H3 H4 s3 _ dw4 ne => ?_
      obtain ⟨c4, st4⟩ := (ci.sm s3).setLost (l := lost.take (i + 1)) dw4 ne (by rw [putK_new hn, List.map_append, ek, List.take_add_one, hp] <;> simp)
      exact ⟨⟨_, rfl⟩, st.trans ((Step.of_same s3).trans st4), c4⟩
    · subst hz'
      rw [List.length_map, List.take_length] at ci
      dsimp only
      have hLx : H' L = some (.lst ys) := st.keep _ _ (s2 _ _ hL1) nL
      have fLx := (fL1.sm s2).tk st.tk
      have st1 := (Step.of_same (own := own) (s1.trans s2)).trans st
      have lf : ∀ {Hx : Hp} {σ : St}, Hx L = some (.lst ys) → TK H' Hx → σ[2]? = some (some (.ref L)) → EvP (tVar 2) σ Hx (fun v H2 => LF K H2 v (qs.map Page.key)) := fun e t h => ep_var h kp_lf ⟨L, ys, rfl, sqL_of e, fLx.tk t⟩
      refine q_asg (P := fun u _ => u = .int 0) ev_c fun v4 H4 s4 e4 => ?_
      subst e4
      refine q_asg (P := fun u _ => u = .int (firstDay qs last)) (ep_if (et_neN (lf (s4 _ _ hLx) (.of_same s4) rfl)) (fun hb => ?_) (fun hb => ?_)) fun v5 H5 s5 e5 => ?_
      · cases qs with
        | nil => cases hb
        | cons p r => exact ev_of_int (ef_call (k := .num p.day) (ea_cons (ef_ixL (lf (s4 _ _ hLx) (.of_same s4) rfl) ev_c (atI_of (n := 0) rfl)) ea_nil) rfl)
      · cases qs with
        | nil => exact ev_I0 (g := fun i j => .int (i + j)) (ev_var rfl) ev_c
        | cons p r => cases hb
      subst e5
      have c5 := ci.sm (s4.trans s5)
      have hL5 := s5 _ _ (s4 _ _ hLx)
      have fL5 := (fLx.sm s4).sm s5
      have st5 := st1.trans (.of_same (s4.trans s5))
      have hfd : -(2 ^ 60) ≤ firstDay qs last ∧ firstDay qs last ≤ 2 ^ 60 + 1 := by
        cases qs with
        | nil => exact ⟨by show -(2 ^ 60) ≤ last + 1; omega, by show last + 1 ≤ 2 ^ 60 + 1; omega⟩
        | cons p r =>
          have := hqs p List.mem_cons_self
          have h2 := hbp p this.1
          exact ⟨h2, by show p.day ≤ 2 ^ 60 + 1; omega⟩
      have hb0 : below qs (firstDay qs last) = 0 := by
        cases qs with
        | nil => rfl
        | cons p r =>
          unfold below
          have h2 := List.pairwise_cons.mp hsq
          have : (p :: r).filter (fun a => decide (a.day < firstDay (p :: r) last)) = [] := List.filter_eq_nil_iff.mpr fun a ha => by
            have : p.day ≤ a.day := by
              rcases List.mem_cons.mp ha with h | h
              · rw [h]; exact Int.le_refl _
              · exact h2.1 a h
            show ¬ decide (a.day < p.day) = true
            simp
            omega
          rw [this] <;> rfl
      generalize efd : firstDay qs last = first at *
      have args : EvA (tCons (tVar 5) (tCons (tOp (rI0 fun i j => .int (i + j)) (tVar 1) (tC (.int 1))) tNil)) [some (.ref a.p), some (.int last), some (.ref L), z, some (.int 0), some (.int first), none] H5 (fun vs _ => vs = [.int first, .int (last + 1)]) := ea_two (ev_var rfl) (ev_I0 (g := fun i j => .int (i + j)) (ev_var rfl) ev_c)
      unfold tFor iRng2
      refine args H5 (.refl _) _ fun vs H6 s6 ev => ?_
      subst ev
      have c6 := c5.sm s6
      have hL6 := s6 _ _ hL5
      have fL6 := fL5.sm s6
      have st6 := st5.trans (.of_same s6)
      refine ⟨first, last + 1, rfl, by omega, ?_⟩
      have tkL : ∀ {Hx : Hp} {own' : Addr → Prop} {σ : St}, Step own H6 own' Hx → σ[2]? = some (some (.ref L)) → EvP (tVar 2) σ Hx (fun v H2 => LF K H2 v (qs.map Page.key)) := fun st h => ep_var h kp_lf ⟨L, ys, rfl, sqL_of (st.keep _ _ hL6 nL), fL6.tk st.tk⟩
      refine for_range (lo := first) (n := (last + 1 - first).toNat) (fun i σ' H' => (∃ z3 z6, σ' = [some (.ref a.p), some (.int last), some (.ref L), z3, some (.int (below qs (first + i) : Nat)), some (.int first), z6]) ∧ ∃ own', Step own H6 own' H' ∧ WC P w CW H' a own' g lost (runN lost g.terms qs first i).1 (runN lost g.terms qs first i).2 (below qs (first + i)))
        ⟨⟨z, none, by
          have e : below qs (first + ((0 : Nat) : Int)) = 0 := by rw [show first + ((0 : Nat) : Int) = first from by simp]; exact hb0
          rw [e] <;> rfl⟩, own, .refl _ _, by
          have e : below qs (first + ((0 : Nat) : Int)) = 0 := by rw [show first + ((0 : Nat) : Int) = first from by simp]; exact hb0
          rw [e]
          exact c6⟩ (fun i σ' H' hi ⟨⟨z3, z6, hz'⟩, own1, st1', ci⟩ => ?_) (fun σ' H' ⟨_, own1, st1', ci⟩ => ?_)
      · subst hz'
        have ro := hrun i hi
        have hbl : below qs (first + i) + (onDay qs (first + i)).length ≤ 800 := by
          have := congrArg List.length (split_day hsq (first + i))
          rw [List.length_append, List.length_append] at this
          unfold below
          omega
        have hnxt : below qs (first + ((i + 1 : Nat) : Int)) = below qs (first + i) + (onDay qs (first + i)).length := by
          rw [← below_succ]
          congr 1
          omega
        refine seqi ⟨fun m σ2 H2 => ∃ j z3, j ≤ (onDay qs (first + i)).length ∧ m = (onDay qs (first + i)).length - j ∧ σ2 = [some (.ref a.p), some (.int last), some (.ref L), z3, some (.int (below qs (first + i) + j : Nat)), some (.int first), some (.int (first + i))] ∧ ∃ own', Step own H6 own' H2 ∧ WC P w CW H2 a own' g lost (stAt lost g.terms qs first i j).1 (stAt lost g.terms qs first i j).2 (below qs (first + i) + j), ⟨_, 0, z3, Nat.zero_le _, rfl, rfl, own1, st1', ci⟩, ?_⟩
        rintro m σ2 H2 ⟨j, z3', hj, rfl, rfl, own2, st2, c2⟩
        have hat := at_day hsq (first + i) hj
        have ho := ro j hj
        have tlen : EvT (tTest (tOp (rI0 fun i j => .bl (decide (i < j))) (tVar 4) (tCB (rLenK K) (tCons (tVar 2) tNil)))) [some (.ref a.p), some (.int last), some (.ref L), z3', some (.int (below qs (first + i) + j : Nat)), some (.int first), some (.int (first + i))] H2 (decide (below qs (first + i) + j < qs.length)) := (et_test (ev_I0 (g := fun i j => .bl (decide (i < j))) (ev_var rfl) (ev_lenL (tkL st2 rfl)))).of (by rw [List.length_map]; simp; omega)
        have tt : EvT (tAnd (tTest (tOp (rI0 fun i j => .bl (decide (i < j))) (tVar 4) (tCB (rLenK K) (tCons (tVar 2) tNil)))) (tTest (tOp rEq (tCall (fsp (r_at 1)) [] E0 (tCons (tOp (rIxL K) (tVar 2) (tVar 4)) tNil)) (tVar 6)))) [some (.ref a.p), some (.int last), some (.ref L), z3', some (.int (below qs (first + i) + j : Nat)), some (.int first), some (.int (first + i))] H2 (decide (j < (onDay qs (first + i)).length)) := by
          by_cases hlt : below qs (first + i) + j < qs.length
          · obtain ⟨p, hp⟩ : ∃ p, qs[below qs (first + i) + j]? = some p := ⟨_, List.getElem?_eq_getElem hlt⟩
            refine (et_and tlen fun _ => et_test (ev_eqI (a := p.day) (b := first + i) (ev_of_int (ef_call (k := .num p.day) (ea_cons (ef_ixL (k := p.key) (tkL st2 rfl) (ev_var rfl) (atI_of (by rw [List.getElem?_map, hp] <;> rfl))) ea_nil) rfl)) (ev_var rfl))).of ?_
            rw [decide_eq_true hlt, Bool.true_and]
            rw [hp] at hat
            by_cases hj2 : j < (onDay qs (first + i)).length
            · rw [List.getElem?_append_left hj2] at hat
              have := List.mem_of_getElem? hat.symm
              unfold onDay at this
              rw [List.mem_filter] at this
              rw [decide_eq_true hj2]
              exact this.2
            · rw [List.getElem?_append_right (by omega)] at hat
              have := List.mem_of_getElem? hat.symm
              rw [List.mem_filter] at this
              have := of_decide_eq_true this.2
              rw [decide_eq_false hj2]
              exact decide_eq_false (by omega)
          · refine (et_and (a := false) (b := false) (tlen.of (decide_eq_false hlt)) (fun e => by cases e)).of ?_
            have : ¬ j < (onDay qs (first + i)).length := by
              intro hj2
              rw [List.getElem?_eq_none (by omega), List.getElem?_append_left hj2, List.getElem?_eq_getElem hj2] at hat
              cases hat
            rw [decide_eq_false this] <;> rfl
        refine tt H2 (.refl _) _ fun H3 s3 => ?_
        have st3 := st2.trans (.of_same s3)
        have c3 := c2.sm s3
        by_cases hj2 : j < (onDay qs (first + i)).length
        · rw [decide_eq_true hj2, if_pos rfl]
          obtain ⟨p, hp⟩ : ∃ p, (onDay qs (first + i))[j]? = some p := ⟨_, List.getElem?_eq_getElem hj2⟩
          have hpq : qs[below qs (first + i) + j]? = some p := by
            rw [hat, List.getElem?_append_left hj2]
            exact hp
          have ixp : ∀ {Hx : Hp} {own' : Addr → Prop}, Step own H6 own' Hx → EvF (tOp (rIxL K) (tVar 2) (tVar 4)) [some (.ref a.p), some (.int last), some (.ref L), z3', some (.int (below qs (first + i) + j : Nat)), some (.int first), some (.int (first + i))] Hx p.key := fun st => ef_ixL (tkL st rfl) (ev_var rfl) (atI_of (by rw [List.getElem?_map, hpq] <;> rfl))
          refine ⟨_, fun σ' H' hw => ⟨(onDay qs (first + i)).length - (j + 1), by omega, hw⟩, ?_⟩
          refine seqi ?_
          have fm : EvV (tFld K (tVar 0) "marks") [some (.ref a.p), some (.int last), some (.ref L), z3', some (.int (below qs (first + i) + j : Nat)), some (.int first), some (.int (first + i))] H3 (.ref a.kA) := c3.fld T (by simp) (fun _ _ _ _ => rfl) rfl
          unfold tDrop tBM
          refine fm H3 (.refl _) _ fun u4 H4 s4 e4 => ?_
          subst e4
          obtain ⟨xk, hxk, _⟩ := (c3.sm s4).dk
          refine ⟨.inl ⟨rfl, _, sqL_of hxk⟩, ?_⟩
          refine ixp (st3.trans (.of_same s4)) H4 (.refl _) _ fun u5 H5 s5 f5 => ?_
          have c5 := (c3.sm s4).sm s5
          have st5 := st3.trans (.of_same (s4.trans s5))
          obtain ⟨n1, n2, n3, n4, hob⟩ := c5.o
          refine m_call (A := fun vs H2 => FzA H2 vs [p.key]) (ev_var rfl) hob (wf_no _ _ _ _ _ _ _ _ _ _ _ _ _ _ (by simp)) (ea_cons (ixp st5) ea_nil) fun vs H6' s6' fa => ?_
          obtain ⟨u6, rfl, f6⟩ := fa.one_inv
          refine ⟨a, own2, g, lost, _, _, _, u6, p, rfl, c5.sm s6', by omega, f6, fun hpl vv d x y e => ho.2 p hp hpl vv d x y e, ho.1.so, ho.1.nd, ho.1.len, fun v7 H7 own7 st7 c7 f7 => ?_⟩
          refine ⟨by show (2 : Nat) ≤ sizeLine; decide, fun l hl => ?_⟩
          have st8 := (st5.trans (.of_same s6')).trans (st7.trans (.of_same (Same.new (o := .tup [u5, v7]) hl)))
          have f5' := ((f5.sm s6').tk st7.tk).sm (Same.new (o := .tup [u5, v7]) hl)
          have c8 := c7.sm (Same.new (o := .tup [u5, v7]) hl)
          obtain ⟨xk8, hxk8, fxk8⟩ := c8.dk
          have lxk : xk8.length < 100000 := by
            rw [fxk8.length, List.length_map]
            have := c8.zk
            omega
          refine ⟨a.kA, xk8, _, rfl, rfl, hxk8, Nat.lt_of_lt_of_le lxk (by decide), ?_⟩
          have fm8 : Fz (upd H7 l (.tup [u5, v7])) (.ref l) (markK (p, ((stAt lost g.terms qs first i j).1.put lost p).2)) := .tup upd_same (.cons f5' (.one (f7.sm (Same.new hl))))
          obtain ⟨c9, st9⟩ := c8.setK (xs := xk8 ++ [.ref l]) (l := (stAt lost g.terms qs first i j).2 ++ [(p, ((stAt lost g.terms qs first i j).1.put lost p).2)]) (by rw [List.map_append]; exact fxk8.append (.one fm8)) (by
            have := c7.zk
            have h1 := c3.zk
            simp only [List.length_append, List.length_cons, List.length_nil]
            omega)
          dsimp only
          refine s_asg (P := fun u _ => u = .int (below qs (first + i) + (j + 1) : Nat)) (ev_I0 (g := fun i j => .int (i + j)) (ev_var rfl) ev_c |>.imp fun u H9 _ e => by rw [e]; congr 1) fun u9 H9 s9 e9 => ?_
          subst e9
          refine ⟨j + 1, z3', by omega, rfl, rfl, own7, (st8.trans st9).trans (.of_same s9), ?_⟩
          have e1 : stAt lost g.terms qs first i (j + 1) = putStep lost (stAt lost g.terms qs first i j) p := by
            unfold stAt
            rw [List.take_add_one, hp, List.foldl_append] <;> rfl
          rw [e1]
          exact c9.sm s9
        · rw [decide_eq_false hj2]
          have hje : j = (onDay qs (first + i)).length := by omega
          subst hje
          rw [if_neg (by decide)]
          dsimp only
          obtain ⟨n1, n2, n3, n4, hob⟩ := c3.o
          refine m_call (A := fun vs _ => vs = [.int (first + i)]) (ev_var rfl) hob (wf_no _ _ _ _ _ _ _ _ _ _ _ _ _ _ (by simp)) (fun H4 s4 Q4 q4 => ⟨_, rfl, q4 _ H4 (.refl _) rfl⟩) fun vs H4 s4 e4 => ?_
          subst e4
          refine ⟨a, own2, g, lost, _, _, _, first + i, rfl, c3.sm s4, by omega, ho.1.so, ho.1.nd, ho.1.len, ho.1.lens, fun H5 own5 st5 c5 => ?_⟩
          refine ⟨⟨z3', _, by rw [hnxt] <;> rfl⟩, own5, (st3.trans (.of_same s4)).trans st5, ?_⟩
          rw [hnxt]
          have e1 : runN lost g.terms qs first (i + 1) = ((stAt lost g.terms qs first i (onDay qs (first + i)).length).1.fall g.terms (first + i), (stAt lost g.terms qs first i (onDay qs (first + i)).length).2) := by
            unfold stAt
            rw [List.take_length] <;> rfl
          rw [e1]
          exact c5
      · refine q H' own1 (st6.trans st1') ⟨_, rfl, ci.mono ?_⟩
        have : below qs (first + ((last + 1 - first).toNat : Nat)) ≤ qs.length := List.length_filter_le _ _
        omega
end
end K34
namespace K34
open PySem PySem.Spec L2

theorem perm_map_inv {α β : Type} {f : α → β} {l' m : List β} (h : l'.Perm m) : ∀ l : List α, m = l.map f → ∃ l2 : List α, l2.Perm l ∧ l' = l2.map f := by
  induction h with
  | nil => exact fun l e => ⟨l, .refl _, e⟩
  | cons x h ih =>
    intro l e
    cases l with
    | nil => cases e
    | cons y l =>
      rw [List.map_cons] at e
      injection e with e1 e2
      obtain ⟨l2, p, e3⟩ := ih l e2
      exact ⟨y :: l2, p.cons y, by rw [List.map_cons, e1, e3]⟩
  | swap x y t =>
    intro l e
    match l, e with
    | a :: b :: l, e =>
      simp only [List.map_cons] at e
      injection e with e1 e2
      injection e2 with e2 e3
      exact ⟨b :: a :: l, .swap _ _ _, by simp only [List.map_cons]; rw [e1, e2, e3]⟩
  | trans h1 h2 ih1 ih2 =>
    intro l e
    obtain ⟨l2, p2, e2⟩ := ih2 l e
    obtain ⟨l3, p3, e3⟩ := ih1 l2 e2
    exact ⟨l3, p3.trans p2, e3⟩
theorem mergeN_nil {kvs : List (NestedKey × V)} (nd : (kvs.map (·.1)).Nodup) : mergeN [] kvs = kvs := by
  have go : ∀ (more done : List (NestedKey × V)), ((done ++ more).map (·.1)).Nodup → mergeN done more = done ++ more := by
    intro more
    induction more with
    | nil => intro done _; rw [List.append_nil] <;> rfl
    | cons e more ih =>
      intro done h
      have hk : e.1 ∉ done.map (·.1) := by
        rw [List.map_append, List.map_cons, List.nodup_append] at h
        exact fun z => h.2.2 _ z _ List.mem_cons_self rfl
      show mergeN (putK done e.1 e.2) more = _
      rw [putK_new hk, ih (done ++ [(e.1, e.2)]) (by simpa using h)]
      simp
  exact go kvs [] (by simpa using nd)
theorem zip_fst {α : Type} (l : List α) (n : Nat) : (l.zipIdx n).map (fun e => e.1) = l := by
  induction l generalizing n with
  | nil => rfl
  | cons a l ih => rw [List.zipIdx_cons, List.map_cons, ih]
theorem LcI.sm {α : Type} {H0 H H' : Hp} {R : Hp → V → α → Prop} {D : Addr} {out : List α} (mono : ∀ H H' y a, Same H H' → R H y a → R H' y a) (i : LcI H0 R D out H) (s : Same H H') : LcI H0 R D out H' :=
  let ⟨h1, h2, ys, h3, h4⟩ := i
  ⟨h1, h2.trans s, ys, s _ _ h3, pairedKeep (fun _ _ q => mono _ _ _ _ s q) h4⟩
section
variable {P : Program} {w : World} {K : PySem.W.Frag} {mg : Str → Option Value} {base : Heap} {CH CW aK aA aG : Addr} {H H' : Hp} {a : WA} {own : Addr → Prop} {g : WG} {lost : List Page} {s : WS} {marks : List (Page × NestedKey)} {n : Nat} {σ : St} {ta tb : TE} {x y : V}
theorem lc_en {b : Addr} {xs : List V} {g : TG} {tt : TT} {te : TE} {vs : List Nat} {H1 : Hp} {D : Addr} {Qd : Hp → Prop} (Pv : Nat → Hp → Prop) (h0 : Pv 0 (upd H1 D (.lst []))) (hl : ∀ i H, i ≤ xs.length → Pv i H → SqT K H b xs)
    (hs : ∀ i x T H, xs[i]? = some x → Pv i H → H T = none → g (.ref T) (wipe σ vs) (upd H T (.tup [.int (i : Nat), x])) fun σ2 H2 => wipe σ2 vs = wipe σ vs ∧ tt σ2 H2 fun b H3 =>
      if b = true then te σ2 H3 fun y H4 => ∃ acc, H4 D = some (.lst acc) ∧ acc.length < sizeLine ∧ Pv (i + 1) (upd H4 D (.lst (acc ++ [y]))) else Pv (i + 1) H3) (hd : ∀ H, Pv xs.length H → Qd H) :
    ∃ W : Nat → Nat → Hp → Prop, (∃ m, W 0 m (upd H1 D (.lst []))) ∧ ∀ i m H, W i m H →
      ((IteT K b xs).stop i H ∧ Qd H) ∨ ((IteT K b xs).go i H ∧ ∃ Nx : Hp → Prop, (∀ H', Nx H' → ∃ m', m' < m ∧ W (i + 1) m' H') ∧ ∀ x H', (IteT K b xs).yld i H x H' → g x (wipe σ vs) H' fun σ2 H2 => wipe σ2 vs = wipe σ vs ∧ tt σ2 H2 fun b H3 =>
        if b = true then te σ2 H3 fun y H4 => ∃ acc, H4 D = some (.lst acc) ∧ acc.length < sizeLine ∧ Nx (upd H4 D (.lst (acc ++ [y]))) else Nx H3) := by
  refine ⟨fun i m H => m = xs.length - i ∧ i ≤ xs.length ∧ Pv i H, ⟨xs.length, by simp, Nat.zero_le _, h0⟩, ?_⟩
  rintro i m H ⟨rfl, hi, p⟩
  have q := hl i H hi p
  by_cases hlt : i < xs.length
  · refine .inr ⟨⟨q, hlt⟩, Pv (i + 1), fun H' p' => ⟨xs.length - (i + 1), by omega, rfl, hlt, p'⟩, fun x H' y => ?_⟩
    obtain ⟨T, z, ev, hT, eH, hz⟩ := y
    subst ev eH
    exact hs i z T _ hz p hT
  · have e : i = xs.length := by omega
    exact .inl ⟨⟨q, e.symm⟩, hd H (e ▸ p)⟩
def spPlaces (P : Program) (w : World) (CW : Addr) : Sp := fun vs H Q _ => ∃ a own g lost s marks n, vs = [.ref (WA.p a)] ∧ WC P w CW H a own g lost s marks n ∧ g.book.Nodup ∧ g.book.length ≤ 800 ∧
  ∀ d H' kv, H d = none → Same H H' → DW P w H' d kv → (∀ (k : Nat) p, g.book[k]? = some p → valV kv (Page.key p) = some (.int (k : Int))) → Q (.ref d) H'
theorem sc_Walk_places : FnScope ["self", "k", "page"] ["self"] (defScope s_Walk_places) := ⟨rfl, rfl, rfl, by decide +kernel, rfl, by decide +kernel, by decide +kernel⟩
theorem ok_places (T : Txt K mg CH CW aK aA aG) (D : Mat K CW "places" "Walk.places" s_Walk_places ["self"]) : MOK P w K mg base 2 CW "places" ["self"] (spPlaces P w CW) := by
  refine mok_mk D sc_Walk_places (fun vs H Q E h => ?_) (fun f cdv A outer s H vs Q E hr h => ?_)
  · obtain ⟨a, own, g, lost, s, marks, n, rfl, _⟩ := h
    rfl
  · obtain ⟨a, own, g, lost, s, marks, n, rfl, c, nd, hz, q⟩ := h
    have hu := hr.units
    have hu0 := hr.units0
    have hu1 : _ + 1 < cLine := Nat.lt_of_le_of_lt (Nat.add_le_add_left (by decide : 1 ≤ 64) _) hu
    refine ⟨_, (pss_one (ps_ret (pe_callTy (call_dictN rfl hu) (by rfl) T.dict b_dict (pa_cons (pe_lc (own := [("k", 1), ("page", 2)]) rfl sc_Walk_places.nd (pi_enumT (by rfl) T.enumerate (pa_cons (pe_fld (pv 0) (by rfl)) pa_nil)) (blkOk_by (own := [("k", 1), ("page", 2)]) (N := ["self", "k", "page"]) (sc := defScope s_Walk_places) (by decide +kernel)) (fun _ _ _ _ _ => (show PG _ _ (gTup K 2 _) from pg_tup rfl (pgs_cons (pg_name (i := 1) sc_Walk_places.nd rfl (Or.inl rfl)) (pgs_cons (pg_name (i := 2) sc_Walk_places.nd rfl (Or.inl rfl)) pgs_nil)))) (fun _ _ _ _ _ => pts_nil) (fun _ _ _ _ _ => (pe_tup (pa_cons (pv 2) (pa_cons (pv 1) pa_nil))))) pa_nil)))), ?_⟩
    have fb : EvF (tFld K (tVar 0) "own_pages") [some (.ref a.p), none, none] H (.tup (g.book.map Page.key)) := (c.fld T (by simp) (fun _ _ _ _ => rfl) rfl).imp fun v H2 s2 e => by subst e; exact c.fb.sm s2
    refine fb H (.refl _) _ fun v1 H1 s1 f1 => ?_
    obtain ⟨b, xs, rfl, hb, fx⟩ := f1.tup_inv
    have hlx : xs.length = g.book.length := by rw [fx.length, List.length_map]
    refine ⟨b, xs, rfl, sqT_of hb, fun L hL => ?_⟩
    have mono : ∀ (H H' : Hp) (y : V) (e : Page × Nat), Same H H' → (∃ q u, y = .ref q ∧ H q = some (.tup [u, .int (e.2 : Int)]) ∧ Fz H u e.1.key) → ∃ q u, y = .ref q ∧ H' q = some (.tup [u, .int (e.2 : Int)]) ∧ Fz H' u e.1.key := fun H H' y e s ⟨q, u, h1, h2, h3⟩ => ⟨q, u, h1, s _ _ h2, h3.sm s⟩
    refine lc_en (fun i H' => LcI H1 (fun H y (e : Page × Nat) => ∃ q u, y = .ref q ∧ H q = some (.tup [u, .int (e.2 : Int)]) ∧ Fz H u e.1.key) L (g.book.zipIdx.take i) H') ⟨hL, Same.new hL, [], upd_same, .nil⟩ (fun i H' _ p => sqT_of (p.2.1 _ _ hb)) (fun i x T' H' hx p hT => ?_) (fun H' p => ?_)
    · obtain ⟨k, hk, fk⟩ := fx.get hx
      rw [List.getElem?_map] at hk
      obtain ⟨pg, hpg, rfl⟩ := Option.map_eq_some_iff.mp hk
      refine ⟨T', _, rfl, sqT_of upd_same, rfl, _, _, rfl, _, _, rfl, rfl, rfl, ?_⟩
      have p' := p.sm mono (Same.new (o := .tup [.int (i : Nat), x]) hT)
      have hzi : g.book.zipIdx[i]? = some (pg, i) := by
        rw [List.getElem?_zipIdx, hpg]
        simp
      have ht : g.book.zipIdx.take (i + 1) = g.book.zipIdx.take i ++ [(pg, i)] := by
        rw [List.take_add_one, hzi] <;> rfl
      have tn := lc_turn (tt := tYes) (te := tTup (tCons (tVar 2) (tCons (tVar 1) tNil))) (σ2 := [some (.ref a.p), some (.int (i : Nat)), some x]) (b := true) (e := (pg, i)) mono (fun H H' D ys zs y e h1 h2 ⟨q, u, e1, e2, e3⟩ => by
        subst h2
        exact ⟨q, u, e1, by rw [upd_ne (ne_of e2 h1 (fun z => by cases z))]; exact e2, e3.tk (TK.upd fun xs z => by rw [h1] at z; cases z)⟩) p' (by
          rw [List.length_take, List.length_zipIdx]
          omega) et_yes (fun _ H2 s2 Q2 q2 => ⟨_, rfl, _, rfl, by show (2 : Nat) ≤ sizeLine; decide, fun l hl => q2 _ _ (Same.new hl) ⟨l, x, rfl, upd_same, (fk.sm s2).sm (Same.new hl)⟩⟩)
      rw [if_pos rfl, ← ht] at tn
      exact tn
    · obtain ⟨_, s2, ys, h2, h3⟩ := p
      rw [hlx, List.take_of_length_le (by rw [List.length_zipIdx]; exact Nat.le_refl _)] at h3
      refine ⟨L, ys, g.book.zipIdx.map fun e => (e.1.key, V.int (e.2 : Int)), rfl, sqL_of h2, ?_, fun d H4 hd dw ne => ?_⟩
      · clear q h2
        generalize g.book.zipIdx = zs at h3
        induction h3 with
        | nil => exact .nil
        | @cons v e vs es r _ ih =>
          obtain ⟨q, u, e1, e2, e3⟩ := r
          exact .cons ⟨q, u, e1, e2, ky_page e3⟩ ih
      · have nk : ((g.book.zipIdx.map fun e => (e.1.key, V.int (e.2 : Int))).map (·.1)).Nodup := by
          rw [List.map_map]
          have e : (fun x : NestedKey × V => x.1) ∘ (fun e : Page × Nat => (e.1.key, V.int (e.2 : Int))) = Page.key ∘ (fun e : Page × Nat => e.1) := rfl
          rw [e, ← List.map_map, show g.book.zipIdx.map (fun e => e.1) = g.book from zip_fst g.book 0]
          exact keys_nodup nd
        rw [mergeN_nil nk] at dw
        refine q d H4 _ (s1.free (s2.free hd)) ((s1.trans s2).trans (same_new hd ne)) dw fun k p hk => ?_
        refine valV_mem nk (List.mem_map.mpr ⟨(p, k), ?_, rfl⟩)
        refine List.mem_of_getElem? (i := k) ?_
        rw [List.getElem?_zipIdx, hk]
        simp
end
end K34
namespace K34
open PySem PySem.Spec L2

def tellK (s : WS) (e : Due × List Int) : NestedKey := .tup [.text e.1.ower, .text e.1.owed, .text (bS ((aget s.sorts e.1.page).getD false)), e.1.page.key, .tup (ik e.2)]
section
variable {P : Program} {w : World} {K : PySem.W.Frag} {mg : Str → Option Value} {base : Heap} {CH CW aK aA aG : Addr} {H H' : Hp} {a : WA} {own : Addr → Prop} {g : WG} {lost : List Page} {s : WS} {marks : List (Page × NestedKey)} {n : Nat} {σ : St} {ta tb : TE} {x y : V}
theorem idxOf_get {l : List Page} {p : Page} (h : p ∈ l) : l[l.idxOf p]? = some p := by
  induction l with
  | nil => cases h
  | cons q l ih =>
    by_cases e : q = p
    · subst e
      simp
    · have e2 : (q :: l).idxOf p = l.idxOf p + 1 := by
        have h3 : (q == p) = false := by simpa using e
        rw [List.idxOf_cons, h3] <;> rfl
      rw [e2, List.getElem?_cons_succ]
      rcases List.mem_cons.mp h with h | h
      · exact absurd h.symm e
      · exact ih h
def spTold (P : Program) (w : World) (CW : Addr) : Sp := fun vs H Q _ => ∃ a own g lost s marks n, vs = [.ref (WA.p a)] ∧ WC P w CW H a own g lost s marks n ∧ g.book.Nodup ∧ g.book.length ≤ 800 ∧ Fit s ∧ (∀ e ∈ s.falls.map (·.1), e.page ∈ g.book) ∧
  ∀ v H', Same H H' → (∃ ds : Falls, ds.Perm s.falls ∧ LW H H' v (ds.map (tellK s))) → Q v H'
theorem sc_Walk_dues_told : FnScope ["self", "at", "rows", "due", "found", "ower", "owed", "k", "page"] ["self"] (defScope s_Walk_dues_told) := ⟨rfl, rfl, rfl, by decide +kernel, rfl, by decide +kernel, by decide +kernel⟩
theorem ok_told (T : Txt K mg CH CW aK aA aG) (D : Mat K CW "dues_told" "Walk.dues_told" s_Walk_dues_told ["self"]) (M_places : MOK P w K mg base 2 CW "places" ["self"] (spPlaces P w CW)) : MOK P w K mg base 4 CW "dues_told" ["self"] (spTold P w CW) := by
  refine mok_mk D sc_Walk_dues_told (fun vs H Q E h => ?_) (fun f cdv A outer s H vs Q E hr h => ?_)
  · obtain ⟨a, own, g, lost, s, marks, n, rfl, _⟩ := h
    rfl
  · obtain ⟨a, own, g, lost, s, marks, n, rfl, c, bnd, hz, fit, hin, q⟩ := h
    have hu := hr.units
    have hu0 := hr.units0
    have hu1 : _ + 1 < cLine := Nat.lt_of_le_of_lt (Nat.add_le_add_left (by decide : 1 ≤ 64) _) hu
    refine ⟨_, (pss_cons (ps_set (i := 1) sc_Walk_dues_told.nd rfl (Or.inr rfl) (px_meth0 T.clW M_places (hr.mono (by decide)) (pv 0))) (pss_cons (ps_set (i := 2) sc_Walk_dues_told.nd rfl (Or.inl rfl) (pe_callB (cr_sort3 hu) (by rfl) T.sorted b_sorted (pa_cons (pe_lock (pe_lc (own := [("due", 3)]) rfl sc_Walk_dues_told.nd (pi_nkeys (pe_fld (pv 0) (by rfl))) (blkOk_by (own := [("due", 3)]) (N := ["self", "at", "rows", "due", "found", "ower", "owed", "k", "page"]) (sc := defScope s_Walk_dues_told) (by decide +kernel)) (fun _ _ _ _ _ => (pg_name (i := 3) sc_Walk_dues_told.nd rfl (Or.inl rfl))) (fun _ _ _ _ _ => pts_nil) (fun _ _ _ _ _ => (pe_tup (pa_cons (pe_ix (r := rIxT K) ix_tup (pv 3) pe_int (fun _ _ => rfl)) (pa_cons (pe_ix (r := rIxT K) ix_tup (pv 3) pe_int (fun _ _ => rfl)) (pa_cons (show PE _ _ (tNGet P w _ _) from (pe_nget hu (pv 1) (pe_ix (r := rIxT K) ix_tup (pv 3) pe_int (fun _ _ => rfl)) (fun _ _ => rfl))) pa_nil))))))) pa_nil))) (pss_cons (ps_set (i := 4) sc_Walk_dues_told.nd rfl (Or.inl rfl) (pe_lst pa_nil)) (pss_cons (ps_for PassesOwn.never rfl (pi_list (pv 2)) (pg_tup rfl (pgs_cons (pg_name (i := 5) sc_Walk_dues_told.nd rfl (Or.inl rfl)) (pgs_cons (pg_name (i := 6) sc_Walk_dues_told.nd rfl (Or.inl rfl)) (pgs_cons (pg_name (i := 7) sc_Walk_dues_told.nd rfl (Or.inl rfl)) pgs_nil)))) (pss_cons (ps_set (i := 8) sc_Walk_dues_told.nd rfl (Or.inl rfl) (pe_ix ix_tup (pe_fld (pv 0) (by rfl)) (pv 7) (fun _ _ => rfl))) (pss_one (ps_expr (pe_bm PySem.F.plainAttrs_list PySem.F.slot_list_append PySem.F.type_list_append mt_append (pv 4) (pa_cons (pe_tup (pa_cons (pv 5) (pa_cons (pv 6) (pa_cons (pe_nget hu (pe_fld (pv 0) (by rfl)) (pv 8) (fun _ _ => rfl)) (pa_cons (pv 8) (pa_cons (pe_nget hu (pe_fld (pv 0) (by rfl)) (pe_tup (pa_cons (pv 5) (pa_cons (pv 6) (pa_cons (pv 8) pa_nil)))) (fun _ _ => rfl)) pa_nil)))))) pa_nil)))))) (pss_one (ps_ret (pv 4))))))), ?_⟩
    obtain ⟨n1, n2, n3, n4, ho⟩ := c.o
    refine seqi ?_
    refine m_call (A := fun vs _ => vs = []) (Q := fun x H1 => gName 1 x _ H1 _) (ev_var rfl) ho (wf_no _ _ _ _ _ _ _ _ _ _ _ _ _ _ (by simp)) (fun H1 s1 Q q => q _ H1 (.refl _) rfl) fun vs H1 s1 e => ?_
    subst e
    refine ⟨a, own, g, lost, s, marks, n, rfl, c.sm s1, bnd, hz, fun d H2 kat hd s2 dat hat => ?_⟩
    have s2 := s1.trans s2
    have hd0 : H d = none := s1.free hd
    have c2 := c.sm s2
    have ho2 := s2 _ _ ho
    obtain ⟨kv, dw, r⟩ := c2.df
    obtain ⟨⟨_, k1⟩, _, _, _, _, ⟨_, k6⟩, _, _⟩ := c2.kd
    have npf : a.p ≠ a.fA := ne_of k1 k6 (fun z => by cases z)
    have ndf : d ≠ a.fA := fun z => c.ol _ (z ▸ c.ow _ (by simp)) hd0
    have hlock := el_lock (P := P) (w := w) (σ := [some (.ref a.p), some (.ref d), none, none, none, none, none, none, none]) (vs := [3]) (j := 3) (td := tFld K (tVar 0) "falls") (tt := tYes) (te := tTup (tCons (tOp (rIxT K) (tVar 3) (tC (.int 0))) (tCons (tOp (rIxT K) (tVar 3) (tC (.int 1))) (tCons (tNGet P w (tVar 1) (tOp (rIxT K) (tVar 3) (tC (.int 2)))) tNil)))) (H0 := H2)
      (fun _ => true) (fun k => t3 ((dueOf k).ower, (dueOf k).owed, (g.book.idxOf (dueOf k).page : Int))) dw (by rw [r.length]; have := fit.len; omega) (fun _ => rfl)
      (fun Hl ne tk => ev_fld (ev_var rfl) (by rw [ne _ npf]; exact ho2) T.clW (T.noW _ (by simp)) (wf_falls _ _ _ _ _ _ _ _ _ _ _ _ _))
      (fun _ _ _ _ _ _ _ _ _ => et_yes)
      (fun z k Hl H3 ne tk hk s3 fz _ => by
        rw [r.keysDue] at hk
        obtain ⟨du, hdu, rfl⟩ := List.mem_map.mp hk
        rw [dueOf_key]
        have fz0 : Fz H3 z (.tup [.text du.ower, .text du.owed, du.page.key]) := fz
        have hb := idxOf_get (hin du hdu)
        have dal := (dat.keep (ne _ ndf) tk).sm s3
        refine ef_tup (ks := [.text du.ower, .text du.owed, .num (g.book.idxOf du.page : Int)]) (ea_cons (ef_ix (ef_var (i := 3) rfl fz0) ev_c (atI_of (n := 0) rfl)) (ea_cons (ef_ix (ef_var (i := 3) rfl fz0) ev_c (atI_of (n := 1) rfl)) (ea_cons (ef_of_int (ev_nget (ev_var (i := 1) rfl) (ef_ix (ef_var (i := 3) rfl fz0) ev_c (atI_of (n := 2) rfl)) dal (IsKy.page _) (hat _ _ hb))) ea_nil))))
    obtain ⟨u, hu', mu, hL⟩ := hlock
    have erows : ((kv.map (·.1)).filter fun _ => true).map (fun k => t3 ((dueOf k).ower, (dueOf k).owed, (g.book.idxOf (dueOf k).page : Int))) = (s.falls.map fun e => ((e.1.ower, e.1.owed, (g.book.idxOf e.1.page : Int)) : T3)).map t3 := by
      rw [List.filter_eq_self.mpr (fun _ _ => rfl), r.keysDue, List.map_map, List.map_map, List.map_map]
      refine List.map_congr_left fun e _ => ?_
      show t3 ((dueOf e.1.key).ower, (dueOf e.1.key).owed, (g.book.idxOf (dueOf e.1.key).page : Int)) = _
      rw [dueOf_key] <;> rfl
    rw [erows] at hL
    refine seqi ?_
    refine ⟨a.fA, u, hu', mu, fun od => hL od _ fun v3 H3 hd3 s3 lw => ⟨hd3, ?_⟩⟩
    obtain ⟨L, ys, rfl, hnL, hL3, fL⟩ := lw
    generalize upd H3 a.fA u = H4 at *
    refine ⟨L, ys, _, rfl, sqL_of hL3, fL, fun p zs ks' hp hperm fz => ?_⟩
    obtain ⟨ds, hds, rfl⟩ := perm_map_inv hperm _ rfl
    dsimp only [gName]
    have s5 := (s2.trans s3).trans (Same.new (o := .lst zs) hp)
    have fz := fz.sm (Same.new (o := .lst zs) hp)
    have hp5 : upd H4 p (.lst zs) p = some (.lst zs) := upd_same
    generalize upd H4 p (.lst zs) = H5 at *
    refine ⟨by decide, fun fd hfd => ?_⟩
    have s6 := s5.trans (Same.new (o := .lst []) hfd)
    have npd : p ≠ fd := ne_of_none hp5 hfd
    refine q_forLa (ks := (ds.map fun e => ((e.1.ower, e.1.owed, (g.book.idxOf e.1.page : Int)) : T3)).map t3) (xs := zs) (a := p) (ev_var rfl) (fz.sm (Same.new hfd)) (fun i σ' H' => (∃ z5 z6 z7 z8, σ' = [some (.ref a.p), some (.ref d), some (.ref p), none, some (.ref fd), z5, z6, z7, z8]) ∧ Same H5 H' ∧ TK (upd H5 fd (.lst [])) H' ∧ ∃ ws, H' fd = some (.lst ws) ∧ FzA H' ws ((ds.take i).map (tellK s)))
      (fun H6 s7 => ⟨⟨_, _, _, _, rfl⟩, (Same.new hfd).trans s7, .of_same s7, [], s7 _ _ upd_same, .nil⟩) (fun i σ' H' ⟨_, s7, t7, _⟩ => ⟨t7, sqL_of (s7 _ _ hp5)⟩) (fun i j v σ' H' hj fj ⟨⟨z5, z6, z7, z8, hz'⟩, s7, t7, ws, hws, fws⟩ => ?_) (fun σ' H' ⟨⟨z5, z6, z7, z8, hz'⟩, s7, t7, ws, hws, fws⟩ => ?_)
    · subst hz'
      rw [List.getElem?_map, List.getElem?_map] at hj
      obtain ⟨e3, he3, rfl⟩ := Option.map_eq_some_iff.mp hj
      obtain ⟨⟨du, l⟩, hdu, rfl⟩ := Option.map_eq_some_iff.mp he3
      have hmem : (du, l) ∈ s.falls := hds.mem_iff.mp (List.mem_of_getElem? hdu)
      have hmk : du ∈ s.falls.map (·.1) := List.mem_map_of_mem (f := (·.1)) hmem
      have hb := idxOf_get (hin du hmk)
      have fj : Fz H' v (.tup [.text du.ower, .text du.owed, .num (g.book.idxOf du.page : Int)]) := fj
      obtain ⟨bt, bxs, rfl, hbt, fbt⟩ := fj.tup_inv
      obtain ⟨w1, w2, w3, rfl, g1, g2, g3⟩ := fbt.three_inv
      obtain rfl := g1.str_inv
      obtain rfl := g2.str_inv
      obtain rfl := g3.int_inv
      refine ⟨bt, _, rfl, sqT_of hbt, rfl, _, _, rfl, _, _, rfl, _, _, rfl, rfl, ?_⟩
      have c7 := (c.sm s5).sm s7
      refine q_asg (P := fun v H2 => Fz H2 v du.page.key) (ef_ix (i := ((g.book.idxOf du.page : Nat) : Int)) ((c7.fld T (f := "own_pages") (v := a.vB) (by simp) (fun _ _ _ _ => rfl) rfl).imp (R := fun v H2 => Fz H2 v (.tup (g.book.map Page.key))) fun v H8 s8 e => by subst e; exact c7.fb.sm s8) (ev_var rfl) (atI_of (by rw [List.getElem?_map, hb] <;> rfl))) fun v8 H8 s8 f8 => ?_
      have c8 := c7.sm s8
      obtain ⟨ks, dsr, rs⟩ := c8.ds
      obtain ⟨sd, esd⟩ := Option.isSome_iff_exists.mp (fit.so du hmk)
      obtain ⟨vs, hvs, evs⟩ := rs.some (fun _ _ => Page.key_inj) esd
      obtain ⟨kf, dff, rf⟩ := c8.df
      obtain ⟨vl, hvl, fl⟩ := DR.some (fun _ _ => Due.key_inj) rf (aget_of_mem fit.nd hmem)
      have hlen : ws.length < 100000 := by
        rw [fws.length, List.length_map, List.length_take]
        have h1 := hds.length_eq
        have := fit.len
        omega
      refine s_app (P := fun v H => Fz H v (tellK s (du, l))) kp_fz (ev_var (i := 4) rfl) (ef_tup (ks := [.text du.ower, .text du.owed, .text (bS sd), du.page.key, .tup (ik l)]) (ea_cons (ef_of_str (ev_var (i := 5) rfl)) (ea_cons (ef_of_str (ev_var (i := 6) rfl)) (ea_cons ((ev_nget (c8.fSorts T rfl) (ef_var (i := 8) rfl f8) dsr (IsKy.page _) hvs).imp (R := fun v H2 => Fz H2 v (.text (bS sd))) fun v H9 s9 e => by subst e; rw [evs]; exact .str _) (ea_cons (ef_var (i := 8) rfl f8) (ea_cons ((ev_nget (k := du.key) (c8.fFalls T rfl) (ef_tup (ks := [.text du.ower, .text du.owed, du.page.key]) (ea_cons (ef_of_str (ev_var (i := 5) rfl)) (ea_cons (ef_of_str (ev_var (i := 6) rfl)) (ea_cons (ef_var (i := 8) rfl f8) ea_nil)))) dff (IsKy.due _) hvl).imp (R := fun v H2 => Fz H2 v (.tup (ik l))) fun v H9 s9 e => by subst e; exact fl.sm s9) ea_nil))))) |>.imp fun v H9 _ f9 => by unfold tellK; rw [esd]; exact f9) (s8 _ _ hws) hlen fun v9 H9 s9 f9 => ?_
      have hws9 := s9 _ _ (s8 _ _ hws)
      have t10 : TK H9 (upd H9 fd (.lst (ws ++ [v9]))) := TK.upd fun xs z => by rw [hws9] at z; cases z
      refine ⟨⟨_, _, _, _, rfl⟩, ?_, ((t7.trans (.of_same s8)).trans (.of_same s9)).trans t10, _, upd_same, ?_⟩
      · intro b o e
        rw [upd_ne (ne_of_none e hfd)]
        exact s9 _ _ (s8 _ _ (s7 _ _ e))
      · rw [List.take_add_one, hdu, List.map_append]
        exact (((fws.sm s8).sm s9).tk t10).append (.one (f9.tk t10))
    · subst hz'
      have e : (ds.take ((ds.map fun e => ((e.1.ower, e.1.owed, (g.book.idxOf e.1.page : Int)) : T3)).map t3).length) = ds := by
        rw [List.length_map, List.length_map, List.take_length]
      rw [e] at fws
      exact ⟨_, rfl, q _ H' (s5.trans s7) ⟨ds, hds, fd, ws, rfl, s5.free hfd, hws, fws⟩⟩
/-- a book and a day at which the walk can be told -/
structure BookOk (book : List Page) (t : Int × Int) (last : Int) : Prop where
  len : book.length ≤ 800
  sorted : Sorted book
  nd : book.Nodup
  idn : (behind (upTo book last)).idle.Nodup
  idl : (behind (upTo book last)).idle.length ≤ 800
  lb : -(2 ^ 60) ≤ last ∧ last ≤ 2 ^ 60
  pb : ∀ p ∈ book, -(2 ^ 60) ≤ p.day
  run : RunOk (behind (upTo book last)).idle t (upTo book last) (firstDay (upTo book last) last) (last + 1 - firstDay (upTo book last) last).toNat
def walkEnd (book : List Page) (t : Int × Int) (last : Int) : WS × Marks := runN (behind (upTo book last)).idle t (upTo book last) (firstDay (upTo book last) last) (last + 1 - firstDay (upTo book last) last).toNat
def spWalked (P : Program) (w : World) (CW : Addr) : Sp := fun vs H Q _ => ∃ vB vT book t last, vs = [vB, vT, .int last] ∧ Fz H vB (.tup (book.map Page.key)) ∧ Fz H vT (.tup [.num (Prod.fst t), .num (Prod.snd t)]) ∧ BookOk book t last ∧
  ∀ H' a own, Same H H' → (∀ b, own b → H b = none) → WC P w CW H' a own ⟨book, t⟩ (behind (upTo book last)).idle (walkEnd book t last).1 (walkEnd book t last).2 900 → Q (.ref a.p) H'
theorem sc_walked : FnScope ["book", "terms", "day", "walk"] ["book", "terms", "day"] (defScope s_walked) := ⟨rfl, rfl, rfl, by decide +kernel, rfl, by decide +kernel, by decide +kernel⟩
theorem ok_walked (T : Txt K mg CH CW aK aA aG) (D : Dat K mg "walked" "walked" s_walked ["book", "terms", "day"]) (G_Walk : COK P w K mg base 1 CW "Walk" ["self", "book", "terms"] (spWInit P w CW)) (M_go_to : MOK P w K mg base 11 CW "go_to" ["self", "last"] (spGoTo P w CW)) : OK P w K mg base 13 "walked" ["book", "terms", "day"] (spWalked P w CW) := by
  refine ok_mk D sc_walked (fun vs H Q E h => ?_) (fun f cdv A outer s H vs Q E hr h => ?_)
  · obtain ⟨vB, vT, book, t, last, rfl, _⟩ := h
    rfl
  · obtain ⟨vB, vT, book, t, last, rfl, fB, fT, bk, q⟩ := h
    refine ⟨_, (pss_cons (ps_set (i := 3) sc_walked.nd rfl (Or.inl rfl) (px_make G_Walk (hr.mono (by decide)) (by rfl) (pa_cons (pv 0) (pa_cons (pv 1) pa_nil)))) (pss_cons (ps_expr (px_meth T.clW M_go_to (hr.mono (by decide)) (pv 3) (pa_cons (pv 2) pa_nil))) (pss_one (ps_ret (pv 3))))), ?_⟩
    refine ⟨_, rfl, _, rfl, fun x dx nx ndx nex => ?_⟩
    have s0 : Same H (upd (upd H dx (.own x)) x (.ins CW dx [])) := fun b o e => by
      rw [upd_ne (ne_of_none e nx), upd_ne (ne_of_none e ndx)]
      exact e
    refine ⟨x, dx, vB, vT, book, t, rfl, upd_same, fB.sm s0, fT.sm s0, fun H1 a own ea kp fr c => ⟨rfl, ?_⟩⟩
    subst ea
    have s1 : Same H H1 := fun b o e => kp.keep b o (s0 _ _ e) (ne_of_none e nx)
    have f0 : ∀ b, own b → H b = none := fun b h => (fr b h).elim (fun e => by rw [e]; exact nx) fun e => s0.free e
    dsimp only [gName]
    obtain ⟨n1, n2, n3, n4, ho⟩ := c.o
    refine seqi ?_
    refine m_call (A := fun vs _ => vs = [.int last]) (ev_var rfl) ho (wf_no _ _ _ _ _ _ _ _ _ _ _ _ _ _ (by simp)) (fun H2 s2 Q q => ⟨_, rfl, q _ H2 (.refl _) rfl⟩) fun vs H2 s2 e => ?_
    subst e
    refine ⟨a, own, ⟨book, t⟩, last, rfl, c.sm s2, bk.len, bk.sorted, bk.idn, bk.idl, bk.lb, bk.pb, bk.run, fun H3 own3 st3 ⟨r, er, c3⟩ => ?_⟩
    subst er
    obtain ⟨b1, b2⟩ := st3.base (s1.trans s2) f0
    exact ⟨_, rfl, q H3 a own3 b1 b2 c3⟩
def spDues (P : Program) (w : World) : Sp := fun vs H Q _ => ∃ vB vT book t last, vs = [vB, vT, .int last] ∧ Fz H vB (.tup (book.map Page.key)) ∧ Fz H vT (.tup [.num (Prod.fst t), .num (Prod.snd t)]) ∧ BookOk book t last ∧ Fit (walkEnd book t last).1 ∧ (∀ e ∈ (walkEnd book t last).1.falls.map (·.1), e.page ∈ book) ∧
  ∀ v H', Same H H' → (∃ ds : Falls, ds.Perm (walkEnd book t last).1.falls ∧ LW H H' v (ds.map (tellK (walkEnd book t last).1))) → Q v H'
theorem sc_dues : FnScope ["book", "terms", "day"] ["book", "terms", "day"] (defScope s_dues) := ⟨rfl, rfl, rfl, by decide +kernel, rfl, by decide +kernel, by decide +kernel⟩
theorem ok_dues (T : Txt K mg CH CW aK aA aG) (D : Dat K mg "dues" "dues" s_dues ["book", "terms", "day"]) (G_walked : OK P w K mg base 13 "walked" ["book", "terms", "day"] (spWalked P w CW)) (M_dues_told : MOK P w K mg base 4 CW "dues_told" ["self"] (spTold P w CW)) : OK P w K mg base 15 "dues" ["book", "terms", "day"] (spDues P w) := by
  refine ok_mk D sc_dues (fun vs H Q E h => ?_) (fun f cdv A outer s H vs Q E hr h => ?_)
  · obtain ⟨vB, vT, book, t, last, rfl, _⟩ := h
    rfl
  · obtain ⟨vB, vT, book, t, last, rfl, fB, fT, bk, fit, hin, q⟩ := h
    refine ⟨_, (pss_one (ps_ret (px_meth0 T.clW M_dues_told (hr.mono (by decide)) (px_call G_walked (hr.mono (by decide)) (by rfl) (pa_cons (pv 0) (pa_cons (pv 1) (pa_cons (pv 2) pa_nil))))))), ?_⟩
    refine ⟨_, rfl, _, rfl, _, rfl, vB, vT, book, t, last, rfl, fB, fT, bk, fun H1 a own s1 f0 c => ?_⟩
    obtain ⟨n1, n2, n3, n4, ho⟩ := c.o
    refine ⟨a.p, _, _, rfl, ho, wf_no _ _ _ _ _ _ _ _ _ _ _ _ _ _ (by simp), a, own, ⟨book, t⟩, _, _, _, _, rfl, c, bk.nd, bk.len, fit, hin, fun v H2 s2 ⟨ds, hp, lw⟩ => q v H2 (s1.trans s2) ⟨ds, hp, lw.back s1⟩⟩
def spMarks (K : PySem.W.Frag) : Sp := fun vs H Q _ => ∃ vB vT book t last, vs = [vB, vT, .int last] ∧ Fz H vB (.tup (book.map Page.key)) ∧ Fz H vT (.tup [.num (Prod.fst t), .num (Prod.snd t)]) ∧ BookOk book t last ∧
  ∀ v H', Same H H' → LF K H' v ((walkEnd book t last).2.map markK) → Q v H'
theorem sc_marks : FnScope ["book", "terms", "day"] ["book", "terms", "day"] (defScope s_marks) := ⟨rfl, rfl, rfl, by decide +kernel, rfl, by decide +kernel, by decide +kernel⟩
theorem ok_marks (T : Txt K mg CH CW aK aA aG) (D : Dat K mg "marks" "marks" s_marks ["book", "terms", "day"]) (G_walked : OK P w K mg base 13 "walked" ["book", "terms", "day"] (spWalked P w CW)) : OK P w K mg base 15 "marks" ["book", "terms", "day"] (spMarks K) := by
  refine ok_mk D sc_marks (fun vs H Q E h => ?_) (fun f cdv A outer s H vs Q E hr h => ?_)
  · obtain ⟨vB, vT, book, t, last, rfl, _⟩ := h
    rfl
  · obtain ⟨vB, vT, book, t, last, rfl, fB, fT, bk, q⟩ := h
    refine ⟨_, (pss_one (ps_ret (pe_fld (px_call G_walked (hr.mono (by decide)) (by rfl) (pa_cons (pv 0) (pa_cons (pv 1) (pa_cons (pv 2) pa_nil)))) (by rfl)))), ?_⟩
    refine ⟨_, rfl, _, rfl, _, rfl, vB, vT, book, t, last, rfl, fB, fT, bk, fun H1 a own s1 f0 c => ?_⟩
    obtain ⟨n1, n2, n3, n4, ho⟩ := c.o
    obtain ⟨xs, hx, fx⟩ := c.dk
    exact ⟨a.p, CW, _, _, _, rfl, ho, T.clW, T.noW _ (by simp), wf_marks _ _ _ _ _ _ _ _ _ _ _ _ _, q _ H1 s1 ⟨a.kA, xs, rfl, sqL_of hx, fx⟩⟩
end
end K34
namespace K34
open PySem PySem.Spec L2

structure Told where
  ower : Str
  owed : Str
  sort : Bool
  page : Page
  falls : List Int
def Told.items (e : Told) : List NestedKey := [.text e.ower, .text e.owed, .text (bS e.sort), e.page.key, .tup (ik e.falls)]
def Told.key (e : Told) : NestedKey := .tup e.items
def Told.left (t : Int × Int) (e : Told) : Int := termOf t e.sort - e.falls.length
def tell (s : WS) (e : Due × List Int) : Told := ⟨e.1.ower, e.1.owed, (aget s.sorts e.1.page).getD false, e.1.page, e.2⟩
theorem tellK_eq (s : WS) (e : Due × List Int) : tellK s e = (tell s e).key := rfl
theorem Told.depth (e : Told) : e.key.depth ≤ 4 := by
  have := e.page.depth
  simp [Told.key, Told.items, NestedKey.depth, NestedKey.depthAll, ik_depth]
  omega
def freeB (m : List (Str × List (Int × Int))) (e : Told) (day : Int) : Bool := !mournsB m e.ower day && !mournsB m e.owed day
/-- the days without mourning among the k behind day -/
def cnt (m : List (Str × List (Int × Int))) (e : Told) (day : Int) : Nat → Nat
  | 0 => 0
  | k + 1 => cnt m e day k + if freeB m e (day + (k + 1 : Nat)) then 1 else 0
structure Least (m : List (Str × List (Int × Int))) (e : Told) (day many : Int) (k : Nat) : Prop where
  at_ : (cnt m e day k : Int) = many
  lt : ∀ j, j < k → (cnt m e day j : Int) < many
section
variable {P : Program} {w : World} {K : PySem.W.Frag} {mg : Str → Option Value} {base : Heap} {CH CW aK aA aG : Addr} {H H' : Hp} {a : WA} {own : Addr → Prop} {g : WG} {lost : List Page} {s : WS} {marks : List (Page × NestedKey)} {n : Nat} {σ : St} {ta tb : TE} {x y v : V}
theorem told_ix {e : Told} {i m : Nat} {k : NestedKey} (h : σ[i]? = some (some v)) (f : Fz H v e.key) (q : e.items[m]? = some k) : EvF (tOp (rIxT K) (tVar i) (tC (.int (m : Int)))) σ H k := ef_ix (ks := e.items) (ef_var h f) ev_c (atI_of q)
def leftR (ks : List NestedKey) (k : NestedKey) : Prop := ∃ (t : Int × Int) (e : Told), ks = [.tup [.num t.1, .num t.2], e.key] ∧ k = .num (e.left t)
theorem sc_left : FnScope ["terms", "due"] ["terms", "due"] (defScope s_left) := ⟨rfl, rfl, rfl, by decide +kernel, rfl, by decide +kernel, by decide +kernel⟩
theorem ok_left (T : Txt K mg CH CW aK aA aG) (D : Dat K mg "left" "left" s_left ["terms", "due"]) (G_term_of : OK P w K mg base 1 "term_of" ["terms", "sort"] (fspR termR)) : OK P w K mg base 3 "left" ["terms", "due"] (fspR leftR) := by
  refine ok_mk D sc_left (fun vs H Q E h => ?_) (fun f cdv A outer s H vs Q E hr h => ?_)
  · obtain ⟨ks, k, f, ⟨t, e, rfl, _⟩, _⟩ := h
    exact f.length
  · obtain ⟨ks, k, f, ⟨t, e, rfl, rfl⟩, q⟩ := h
    obtain ⟨v, u, rfl, f1, f2⟩ := f.two_inv
    refine ⟨_, (pss_one (ps_ret (pe_op op_sub (px_call G_term_of (hr.mono (by decide)) (by rfl) (pa_cons (pv 0) (pa_cons (pe_ix ix_tup (pv 1) pe_int (fun _ _ => rfl)) pa_nil))) (pe_callB call_lenK (by rfl) T.len b_len (pa_cons (pe_ix ix_tup (pv 1) pe_int (fun _ _ => rfl)) pa_nil))))), ?_⟩
    refine s_ret (ef_of_int (ev_I0 (g := fun i j => .int (i - j)) (a := termOf t e.sort) (b := (e.falls.length : Int)) (ev_of_int (ef_callR (ea_cons (ef_var (i := 0) rfl f1) (ea_cons (told_ix (i := 1) (m := 2) (e := e) rfl f2 rfl) ea_nil)) ⟨t, e.sort, rfl, rfl⟩)) ?_)) q
    have := ev_lenT (K := K) (σ := [some v, some u]) (told_ix (K := K) (i := 1) (m := 4) (e := e) rfl f2 rfl)
    rw [ik_len] at this
    exact this
def spLastKnown (P : Program) (w : World) (CW : Addr) : Sp := fun vs H Q _ => ∃ a own g lost s marks n vT t day vd e k, vs = [.ref (WA.p a), vT, .int day, vd] ∧ WC P w CW H a own g lost s marks n ∧ n ≤ 900 ∧ Fz H vT (.tup [.num (Prod.fst t), .num (Prod.snd t)]) ∧ Fz H vd (Told.key e) ∧ Least s.mourned e day (e.left t) k ∧
  ∀ H', Same H H' → Q (.int (day + (k : Int))) H'
theorem sc_last_known : FnScope ["walk", "terms", "day", "due", "many"] ["walk", "terms", "day", "due"] (defScope s_last_known) := ⟨rfl, rfl, rfl, by decide +kernel, rfl, by decide +kernel, by decide +kernel⟩
theorem ok_last_known (T : Txt K mg CH CW aK aA aG) (D : Dat K mg "last_known" "last_known" s_last_known ["walk", "terms", "day", "due"]) (G_left : OK P w K mg base 3 "left" ["terms", "due"] (fspR leftR)) (M_mourns : MOK P w K mg base 2 CW "mourns" ["self", "name", "day"] (spMourns P w CW)) : OK P w K mg base 5 "last_known" ["walk", "terms", "day", "due"] (spLastKnown P w CW) := by
  refine ok_mk D sc_last_known (fun vs H Q E h => ?_) (fun f cdv A outer s H vs Q E hr h => ?_)
  · obtain ⟨a, own, g, lost, s, marks, n, vT, t, day, vd, e, k, rfl, _⟩ := h
    rfl
  · obtain ⟨a, own, g, lost, s, marks, n, vT, t, day, vd, e, k, rfl, c, hn, fT, fe, hl, q⟩ := h
    refine ⟨_, (pss_cons (ps_set (i := 4) sc_last_known.nd rfl (Or.inl rfl) (px_call G_left (hr.mono (by decide)) (by rfl) (pa_cons (pv 1) (pa_cons (pv 3) pa_nil)))) (pss_cons (ps_while PassesOwn.never (pt_cmpR op_gt (pv 4) pe_int (nomark _)) (pss_cons (ps_set (i := 2) sc_last_known.nd rfl (Or.inl rfl) (pe_op op_add (pv 2) pe_int)) (pss_one (ps_if (pw_and (pt_not (pt_val (px_meth T.clW M_mourns (hr.mono (by decide)) (pv 0) (pa_cons (pe_ix ix_tup (pv 3) pe_int (fun _ _ => rfl)) (pa_cons (pv 2) pa_nil))))) (pw_and1 (pt_not (pt_val (px_meth T.clW M_mourns (hr.mono (by decide)) (pv 0) (pa_cons (pe_ix ix_tup (pv 3) pe_int (fun _ _ => rfl)) (pa_cons (pv 2) pa_nil))))))).pt (pss_one (ps_set (i := 4) sc_last_known.nd rfl (Or.inl rfl) (pe_op op_sub (pv 4) pe_int))) pss_nil)))) (pss_one (ps_ret (pv 2))))), ?_⟩
    refine q_asg (P := fun u _ => u = .int (e.left t)) (ev_of_int (ef_callR (ea_cons (ef_var (i := 1) rfl fT) (ea_cons (ef_var (i := 3) rfl fe) ea_nil)) ⟨t, e, rfl, rfl⟩)) fun v4 H1 s1 e4 => ?_
    subst e4
    refine seqi ⟨fun m σ2 H2 => ∃ j, j ≤ k ∧ m = k - j ∧ σ2 = [some (.ref a.p), some vT, some (.int (day + (j : Int))), some vd, some (.int (e.left t - (cnt s.mourned e day j : Int)))] ∧ Same H H2, ⟨_, 0, Nat.zero_le _, rfl, by simp [cnt] <;> rfl, s1⟩, ?_⟩
    rintro m σ2 H2 ⟨j, hj, rfl, rfl, s2⟩
    have tt := et_test (σ := [some (.ref a.p), some vT, some (.int (day + (j : Int))), some vd, some (.int (e.left t - (cnt s.mourned e day j : Int)))]) (H := H2) (ev_I0 (g := fun i j => .bl (decide (j < i))) (ev_var (i := 4) rfl) (ev_c (v := .int 0)))
    refine tt H2 (.refl _) _ fun H3 s3 => ?_
    have s3 := s2.trans s3
    by_cases hjk : j < k
    · have hlt := hl.lt j hjk
      rw [decide_eq_true (show (0 : Int) < e.left t - (cnt s.mourned e day j : Int) by omega), if_pos rfl]
      refine ⟨_, fun σ' H' hw => ⟨k - (j + 1), by omega, hw⟩, ?_⟩
      refine q_asg (P := fun u _ => u = .int (day + ((j + 1 : Nat) : Int))) ((ev_I0 (g := fun i j => .int (i + j)) (ev_var (i := 2) rfl) (ev_c (v := .int 1))).imp fun u H4 _ e => by rw [e]; congr 1; omega) fun v2 H4 s4 e2 => ?_
      subst e2
      have s4 := s3.trans s4
      have c4 := c.sm s4
      have f4 := fe.sm s4
      have tm : ∀ {H5 : Hp} {i : Nat} {z : Str}, Same H4 H5 → e.items[i]? = some (.text z) → EvT (tNot (tB (tMeth CW "mourns" (spMourns P w CW) [] E0 (tVar 0) (tCons (tOp (rIxT K) (tVar 3) (tC (.int (i : Int)))) (tCons (tVar 2) tNil))))) [some (.ref a.p), some vT, some (.int (day + ((j + 1 : Nat) : Int))), some vd, some (.int (e.left t - (cnt s.mourned e day j : Int)))] H5 (!mournsB s.mourned z (day + ((j + 1 : Nat) : Int))) := fun s5 hz => et_not (et_B (ev_mourns (c4.sm s5) hn rfl (ea_cons (told_ix (i := 3) (e := e) rfl (f4.sm s5) hz) (ea_cons (ef_of_int (ev_var rfl)) ea_nil))))
      refine s_if (et_and (tm (i := 0) (.refl _) rfl) fun _ => tm (i := 1) (.refl _) rfl) (fun hb H5 s5 => ?_) (fun hb H5 s5 => ?_)
      · refine s_asg (P := fun u _ => u = .int (e.left t - (cnt s.mourned e day (j + 1) : Int))) ((ev_I0 (g := fun i j => .int (i - j)) (ev_var (i := 4) rfl) (ev_c (v := .int 1))).imp fun u H6 _ e6 => ?_) fun v6 H6 s6 e6 => ?_
        · rw [e6]
          congr 1
          have hf : freeB s.mourned e (day + (j + 1 : Nat)) = true := hb
          simp only [cnt, hf, if_true]
          omega
        · subst e6
          exact ⟨j + 1, hjk, rfl, rfl, (s4.trans s5).trans s6⟩
      · refine ⟨j + 1, hjk, rfl, ?_, s4.trans s5⟩
        have hf : freeB s.mourned e (day + (j + 1 : Nat)) = false := hb
        have e0 : cnt s.mourned e day (j + 1) = cnt s.mourned e day j := by
          simp only [cnt, hf]
          rfl
        rw [e0] <;> rfl
    · have hje : j = k := by omega
      subst hje
      have := hl.at_
      rw [decide_eq_false (show ¬ (0 : Int) < e.left t - (cnt s.mourned e day j : Int) by omega), if_neg (by decide)]
      exact s_ret (ev_var (i := 2) rfl) fun u H4 s4 e4 => by subst e4; exact q H4 (s3.trans s4)
def spLast (P : Program) (w : World) : Sp := fun vs H Q _ => ∃ vB vT book t day vd d k, vs = [vB, vT, .int day, vd] ∧ Fz H vB (.tup (book.map Page.key)) ∧ Fz H vT (.tup [.num (Prod.fst t), .num (Prod.snd t)]) ∧ BookOk book t day ∧ Fit (walkEnd book t day).1 ∧ (∀ e ∈ (walkEnd book t day).1.falls.map (·.1), e.page ∈ book) ∧ d ∈ (walkEnd book t day).1.falls ∧
  Fz H vd (tell (walkEnd book t day).1 d).key ∧ (tell (walkEnd book t day).1 d).left t ≠ 0 ∧ Least (walkEnd book t day).1.mourned (tell (walkEnd book t day).1 d) day ((tell (walkEnd book t day).1 d).left t) k ∧ ∀ H', Same H H' → Q (.int (day + (k : Int))) H'
theorem sc_last : FnScope ["book", "terms", "day", "due", "walk"] ["book", "terms", "day", "due"] (defScope s_last) := ⟨rfl, rfl, rfl, by decide +kernel, rfl, by decide +kernel, by decide +kernel⟩
theorem ok_last (T : Txt K mg CH CW aK aA aG) (D : Dat K mg "last" "last" s_last ["book", "terms", "day", "due"]) (G_walked : OK P w K mg base 13 "walked" ["book", "terms", "day"] (spWalked P w CW)) (M_dues_told : MOK P w K mg base 4 CW "dues_told" ["self"] (spTold P w CW)) (G_left : OK P w K mg base 3 "left" ["terms", "due"] (fspR leftR)) (G_last_known : OK P w K mg base 5 "last_known" ["walk", "terms", "day", "due"] (spLastKnown P w CW)) :
    OK P w K mg base 15 "last" ["book", "terms", "day", "due"] (spLast P w) := by
  refine ok_mk D sc_last (fun vs H Q E h => ?_) (fun f cdv A outer s H vs Q E hr h => ?_)
  · obtain ⟨vB, vT, book, t, day, vd, d, k, rfl, _⟩ := h
    rfl
  · obtain ⟨vB, vT, book, t, day, vd, d, k, rfl, fB, fT, bk, fit, hin, hd, fd, hl0, hl, q⟩ := h
    have hu := hr.units
    have hu0 := hr.units0
    have hu1 : _ + 1 < cLine := Nat.lt_of_le_of_lt (Nat.add_le_add_left (by decide : 1 ≤ 64) _) hu
    refine ⟨_, (pss_cons (ps_set (i := 4) sc_last.nd rfl (Or.inl rfl) (px_call G_walked (hr.mono (by decide)) (by rfl) (pa_cons (pv 0) (pa_cons (pv 1) (pa_cons (pv 2) pa_nil))))) (pss_cons (ps_if (pw_or (pt_cmpR (op_notInK hu) (pv 3) (px_meth0 T.clW M_dues_told (hr.mono (by decide)) (pv 4)) (by with_unfolding_all rfl)) (pw_or1 (pt_cmpR op_eq (px_call G_left (hr.mono (by decide)) (by rfl) (pa_cons (pv 1) (pa_cons (pv 3) pa_nil))) pe_int (nomark _)))).pt (pss_one ps_never) pss_nil) (pss_one (ps_ret (px_call G_last_known (hr.mono (by decide)) (by rfl) (pa_cons (pv 4) (pa_cons (pv 1) (pa_cons (pv 2) (pa_cons (pv 3) pa_nil))))))))), ?_⟩
    refine ⟨_, rfl, _, rfl, _, rfl, vB, vT, book, t, day, rfl, fB, fT, bk, fun H1 a own s1 f0 c => ?_⟩
    dsimp only [gName]
    obtain ⟨n1, n2, n3, n4, ho⟩ := c.o
    have t1 : EvT (tTest (tOp (rNotInK K) (tVar 3) (tMeth CW "dues_told" (spTold P w CW) [] E0 (tVar 4) tNil))) [some vB, some vT, some (.int day), some vd, some (.ref a.p)] H1 false := fun H2 s2 Q2 q2 => by
      refine ⟨vd, rfl, m_call (A := fun vs _ => vs = []) (ev_var (i := 4) rfl) (s2 _ _ ho) (wf_no _ _ _ _ _ _ _ _ _ _ _ _ _ _ (by simp)) (fun H3 s3 Q q => q _ H3 (.refl _) rfl) fun vs H3 s3 e3 => ?_⟩
      subst e3
      refine ⟨a, own, ⟨book, t⟩, _, _, _, _, rfl, (c.sm s2).sm s3, bk.nd, bk.len, fit, hin, fun v4 H4 s4 ⟨ds, hp, lw⟩ => ?_⟩
      obtain ⟨L, ys, rfl, _, hL, fL⟩ := lw
      refine ⟨_, _, L, ys, (((fd.sm s1).sm s2).sm s3).sm s4, Nat.le_trans (Told.depth _) (by decide), rfl, sqL_of hL, fL, false, ?_, q2 H4 (s3.trans s4)⟩
      have : (tell (walkEnd book t day).1 d).key ∈ ds.map (tellK (walkEnd book t day).1) := List.mem_map.mpr ⟨d, hp.mem_iff.mpr hd, rfl⟩
      simp [this]
    have t2 : EvT (tTest (tOp rEq (tCall (fspR leftR) [] E0 (tCons (tVar 1) (tCons (tVar 3) tNil))) (tC (.int 0)))) [some vB, some vT, some (.int day), some vd, some (.ref a.p)] H1 false := (et_test (ev_eqI (ev_of_int (ef_callR (ea_cons (ef_var (i := 1) rfl (fT.sm s1)) (ea_cons (ef_var (i := 3) rfl (fd.sm s1)) ea_nil)) ⟨t, _, rfl, rfl⟩)) ev_c)).of (decide_eq_false hl0)
    refine seqi (s_ifF (et_or (a := false) (b := false) t1 fun _ => t2) fun H2 s2 => ?_)
    have s2 := s1.trans s2
    refine ⟨_, rfl, _, rfl, _, rfl, _, rfl, a, own, _, _, _, _, _, vT, t, day, vd, _, k, rfl, c.sm (by assumption), Nat.le_refl _, fT.sm s2, fd.sm s2, hl, fun H3 s3 => q H3 (s2.trans s3)⟩
end
end K34
namespace K34
open PySem PySem.Spec L2

def rudeK (e : Told) : NestedKey := .tup [.text e.ower, .text e.owed, e.page.key, .num (e.falls.getLast?.getD 0)]
noncomputable def toldOf (k : NestedKey) : Told := @dite _ (∃ e : Told, e.key = k) (Classical.propDecidable _) (fun h => h.choose) (fun _ => ⟨"", "", false, .join 0 "" "", []⟩)
theorem Told.key_inj {a b : Told} (h : a.key = b.key) : a = b := by
  obtain ⟨a1, a2, a3, a4, a5⟩ := a
  obtain ⟨b1, b2, b3, b4, b5⟩ := b
  injection h with h
  injection h with h1 h
  injection h with h2 h
  injection h with h3 h
  injection h with h4 h
  injection h with h5 _
  injection h1 with h1
  injection h2 with h2
  injection h3 with h3
  injection h5 with h5
  have h3 := bS_inj _ _ h3
  have h4 := Page.key_inj h4
  have h5 := num_inj h5
  have h1 : a1 = b1 := h1
  have h2 : a2 = b2 := h2
  have h3 : a3 = b3 := h3
  have h4 : a4 = b4 := h4
  have h5 : a5 = b5 := h5
  rw [h1, h2, h3, h4, h5]
theorem toldOf_key (e : Told) : toldOf e.key = e := by
  unfold toldOf
  have h : ∃ e' : Told, e'.key = e.key := ⟨e, rfl⟩
  rw [dif_pos h]
  exact Told.key_inj h.choose_spec
theorem filter_told (l : List Told) (p : Told → Bool) : (l.map Told.key).filter (fun k => p (toldOf k)) = (l.filter p).map Told.key := by
  rw [List.filter_map]
  congr 1
  refine List.filter_congr fun d _ => ?_
  show p (toldOf d.key) = p d
  rw [toldOf_key]
theorem cutTake2 {ks : List NestedKey} {a b : NestedKey} {r : List NestedKey} (h : ks = a :: b :: r) : cutK ks none (some 2) = [a, b] := by
  subst h
  unfold cutK
  have e1 : HT.sIx (a :: b :: r).length 0 none = 0 := rfl
  have e2 : HT.sIx (a :: b :: r).length (a :: b :: r).length (some 2) = 2 := by
    simp [HT.sIx]
  rw [e1, e2] <;> rfl
theorem told_cut (e : Told) : cutK e.items none (some 2) = [.text e.ower, .text e.owed] := cutTake2 (ks := e.items) rfl
/-- the terms, the book -/
abbrev TermsF (H : Hp) (v : V) (t : Int × Int) : Prop := Fz H v (.tup [.num t.1, .num t.2])
structure DuesOk (book : List Page) (t : Int × Int) (last : Int) : Prop where
  bk : BookOk book t last
  fit : Fit (walkEnd book t last).1
  inb : ∀ e ∈ (walkEnd book t last).1.falls.map (·.1), e.page ∈ book
def toldL (book : List Page) (t : Int × Int) (last : Int) : List Told := (walkEnd book t last).1.falls.map (tell (walkEnd book t last).1)
section
variable {P : Program} {w : World} {K : PySem.W.Frag} {mg : Str → Option Value} {base : Heap} {CH CW aK aA aG : Addr} {H H' : Hp} {a : WA} {own : Addr → Prop} {g : WG} {lost : List Page} {s : WS} {marks : List (Page × NestedKey)} {n : Nat} {σ : St} {ta tb : TE} {x y v : V}
/-- a call of dues -/
theorem ep_dues {t : TA} {book : List Page} {tm : Int × Int} {last : Int} {E : XK} (ok : DuesOk book tm last) (ha : EvAF t σ H [.tup (book.map Page.key), .tup [.num tm.1, .num tm.2], .num last]) :
    EvP (tCall (spDues P w) [] E t) σ H fun v H2 => ∃ ds : List Told, ds.Perm (toldL book tm last) ∧ LW H H2 v (ds.map Told.key) := fun H1 s Q q => ha H1 s _ fun vs H2 s2 fa => by
  obtain ⟨v1, v2, v3, rfl, g1, g2, g3⟩ := fa.three_inv
  obtain rfl := g3.int_inv
  refine ⟨v1, v2, book, tm, last, rfl, g1, g2, ok.bk, ok.fit, ok.inb, fun v H3 s3 ⟨ds, hp, lw⟩ => q v H3 (s2.trans s3) ⟨ds.map (tell (walkEnd book tm last).1), hp.map _, ?_⟩⟩
  rw [List.map_map]
  exact lw.back (s.trans s2)
def spOwes : Sp := fun vs H Q _ => ∃ vB vT book t day x y, vs = [vB, vT, .int day, .str x, .str y] ∧ Fz H vB (.tup (book.map Page.key)) ∧ TermsF H vT t ∧ DuesOk book t day ∧ (aget (behind (upTo book day)).homes x).isSome = true ∧ (aget (behind (upTo book day)).homes y).isSome = true ∧
  ∀ v H', Same H H' → (∃ ds : List Told, ds.Perm (toldL book t day) ∧ LW H H' v ((ds.filter fun e => decide (e.ower = x) && decide (e.owed = y)).map Told.key)) → Q v H'
theorem sc_owes : FnScope ["book", "terms", "day", "a", "b", "due"] ["book", "terms", "day", "a", "b"] (defScope s_owes) := ⟨rfl, rfl, rfl, by decide +kernel, rfl, by decide +kernel, by decide +kernel⟩
theorem ok_owes (T : Txt K mg CH CW aK aA aG) (D : Dat K mg "owes" "owes" s_owes ["book", "terms", "day", "a", "b"]) (G_home_of : OK P w K mg base 9 "home_of" ["book", "day", "name"] spHomeOf) (G_dues : OK P w K mg base 15 "dues" ["book", "terms", "day"] (spDues P w)) : OK P w K mg base 17 "owes" ["book", "terms", "day", "a", "b"] spOwes := by
  refine ok_mk D sc_owes (fun vs H Q E h => ?_) (fun f cdv A outer s H vs Q E hr h => ?_)
  · obtain ⟨vB, vT, book, t, day, x, y, rfl, _⟩ := h
    rfl
  · obtain ⟨vB, vT, book, t, day, x, y, rfl, fB, fT, ok, hx, hy, q⟩ := h
    have hu := hr.units
    have hu0 := hr.units0
    have hu1 : _ + 1 < cLine := Nat.lt_of_le_of_lt (Nat.add_le_add_left (by decide : 1 ≤ 64) _) hu
    refine ⟨_, (pss_cons (ps_expr (px_call G_home_of (hr.mono (by decide)) (by rfl) (pa_cons (pv 0) (pa_cons (pv 2) (pa_cons (pv 3) pa_nil))))) (pss_cons (ps_expr (px_call G_home_of (hr.mono (by decide)) (by rfl) (pa_cons (pv 0) (pa_cons (pv 2) (pa_cons (pv 4) pa_nil))))) (pss_one (ps_ret (pe_lc (own := [("due", 5)]) rfl sc_owes.nd (pi_list (px_call G_dues (hr.mono (by decide)) (by rfl) (pa_cons (pv 0) (pa_cons (pv 1) (pa_cons (pv 2) pa_nil))))) (blkOk_by (own := [("due", 5)]) (N := ["book", "terms", "day", "a", "b", "due"]) (sc := defScope s_owes) (by decide +kernel)) (fun _ _ _ _ _ => (pg_name (i := 5) sc_owes.nd rfl (Or.inl rfl))) (fun _ _ _ _ _ => (pts_one (pt_cmpR (op_eqT hu) (pe_slice (r := rSlA K) sl_tupA (pv 5) po_none (po_some pe_int)) (pe_tup (pa_cons (pv 3) (pa_cons (pv 4) pa_nil))) (nomark _)))) (fun _ _ _ _ _ => (pv 5))))))), ?_⟩
    refine seqi ⟨_, rfl, _, rfl, _, rfl, vB, book, day, x, rfl, fB, ok.bk.len, hx, fun u1 H1 s1 => ?_⟩
    refine seqi ⟨_, rfl, _, rfl, _, rfl, vB, book, day, y, rfl, fB.sm s1, ok.bk.len, hy, fun u2 H2 s2 => ?_⟩
    have s2 := s1.trans s2
    dsimp only
    refine s_ret (P := fun v H' => ∃ ds : List Told, ds.Perm (toldL book t day) ∧ LW H2 H' v ((ds.filter fun e => decide (e.ower = x) && decide (e.owed = y)).map Told.key)) (fun H3 s3 Q3 q3 => ?_) fun v H3 s3 ⟨ds, hp, lw⟩ => q v H3 (s2.trans s3) ⟨ds, hp, lw.back s2⟩
    refine ep_dues (P := P) (w := w) (E := E0) (t := tCons (tVar 0) (tCons (tVar 1) (tCons (tVar 2) tNil))) (σ := [some vB, some vT, some (.int day), some (.str x), some (.str y), none]) ok (ea_cons (ef_var rfl ((fB.sm s2).sm s3)) (ea_cons (ef_var rfl ((fT.sm s2).sm s3)) (ea_cons (ef_of_int (ev_var rfl)) ea_nil))) H3 (.refl _) _ fun v4 H4 s4 ⟨ds, hp, lw⟩ => ?_
    obtain ⟨L, ys, rfl, hnL, hL, fL⟩ := lw
    have B := el_lcL (K := K) (σ := [some vB, some vT, some (.int day), some (.str x), some (.str y), none]) (H := H4) (tl := fun σ H Q => Q (.ref L) H) (vs := [5]) (j := 5) (tt := tTest (tOp rEqT (tSl (rSlA K) (tVar 5) tNoPart (tPart (tC (.int 2)))) (tTup (tCons (tVar 3) (tCons (tVar 4) tNil))))) (te := tVar 5) (js := ds.map Told.key) (fun k => decide ((toldOf k).ower = x) && decide ((toldOf k).owed = y)) id (fun H5 s5 Q5 q5 => q5 _ H5 (.refl _) ⟨L, ys, rfl, sqL_of (s5 _ _ hL), fL.sm s5⟩) (by
        rw [List.length_map, hp.length_eq]
        have := ok.fit.len
        show ((walkEnd book t day).1.falls.map _).length ≤ _
        rw [List.length_map]
        omega) (fun _ => rfl) (fun z k H5 hk s5 fz => by
          obtain ⟨e, _, rfl⟩ := List.mem_map.mp hk
          rw [toldOf_key]
          refine (et_test (ev_eqT ((ef_sl (K := K) (ks := e.items) (ef_var (i := 5) rfl fz) eo_none (eo_some (ev_c (v := .int 2)))).ofF (congrArg NestedKey.tup (told_cut e))) (ef_tup (ks := [.text x, .text y]) (ea_cons (ef_of_str (ev_var (i := 3) rfl)) (ea_cons (ef_of_str (ev_var (i := 4) rfl)) ea_nil))) (by simp [NestedKey.depth, NestedKey.depthAll]))).of ?_
          simp) (fun z k H5 hk s5 fz _ => ef_var rfl fz)
    rw [List.map_id, filter_told ds fun e => decide (e.ower = x) && decide (e.owed = y)] at B
    refine B H4 (.refl _) _ fun v5 H5 s5 lw => q3 v5 H5 (s4.trans s5) ⟨ds, hp, lw.back (s3.trans s4)⟩
def spRudeP : Sp := fun vs H Q _ => ∃ vB vT book t day, vs = [vB, vT, .int day] ∧ Fz H vB (.tup (book.map Page.key)) ∧ TermsF H vT t ∧ DuesOk book t day ∧
  ∀ v H', Same H H' → (∃ ds : List Told, ds.Perm (toldL book t day) ∧ LW H H' v ((ds.filter fun e => decide (e.left t = 0)).map fun e => .tup [.text e.ower, .text e.owed, e.page.key, .tup (ik e.falls)])) → Q v H'
theorem sc_rude_papers : FnScope ["book", "terms", "day", "found", "due"] ["book", "terms", "day"] (defScope s_rude_papers) := ⟨rfl, rfl, rfl, by decide +kernel, rfl, by decide +kernel, by decide +kernel⟩
theorem ok_rude_papers (T : Txt K mg CH CW aK aA aG) (D : Dat K mg "rude_papers" "rude_papers" s_rude_papers ["book", "terms", "day"]) (G_dues : OK P w K mg base 15 "dues" ["book", "terms", "day"] (spDues P w)) (G_left : OK P w K mg base 3 "left" ["terms", "due"] (fspR leftR)) : OK P w K mg base 17 "rude_papers" ["book", "terms", "day"] spRudeP := by
  refine ok_mk D sc_rude_papers (fun vs H Q E h => ?_) (fun f cdv A outer s H vs Q E hr h => ?_)
  · obtain ⟨vB, vT, book, t, day, rfl, _⟩ := h
    rfl
  · obtain ⟨vB, vT, book, t, day, rfl, fB, fT, ok, q⟩ := h
    have hu := hr.units
    have hu0 := hr.units0
    have hu1 : _ + 1 < cLine := Nat.lt_of_le_of_lt (Nat.add_le_add_left (by decide : 1 ≤ 64) _) hu
    refine ⟨_, (pss_cons (ps_set (i := 3) sc_rude_papers.nd rfl (Or.inl rfl) (pe_lst pa_nil)) (pss_cons (ps_for PassesOwn.never rfl (pi_list (px_call G_dues (hr.mono (by decide)) (by rfl) (pa_cons (pv 0) (pa_cons (pv 1) (pa_cons (pv 2) pa_nil))))) (pg_name (i := 4) sc_rude_papers.nd rfl (Or.inl rfl)) (pss_one (ps_if (pt_cmpR op_eq (px_call G_left (hr.mono (by decide)) (by rfl) (pa_cons (pv 1) (pa_cons (pv 4) pa_nil))) pe_int (nomark _)) (pss_one (ps_expr (pe_bm PySem.F.plainAttrs_list PySem.F.slot_list_append PySem.F.type_list_append mt_append (pv 3) (pa_cons (pe_tup (pa_cons (pe_ix ix_tup (pv 4) pe_int (fun _ _ => rfl)) (pa_cons (pe_ix ix_tup (pv 4) pe_int (fun _ _ => rfl)) (pa_cons (pe_ix ix_tup (pv 4) pe_int (fun _ _ => rfl)) (pa_cons (pe_ix ix_tup (pv 4) pe_int (fun _ _ => rfl)) pa_nil))))) pa_nil)))) pss_nil))) (pss_one (ps_ret (pv 3))))), ?_⟩
    refine ⟨by decide, fun fd hfd => ?_⟩
    have s1 := Same.new (o := .lst []) hfd
    refine seqi ?_
    have hd := ep_dues (P := P) (w := w) (E := E0) (t := tCons (tVar 0) (tCons (tVar 1) (tCons (tVar 2) tNil))) (σ := [some vB, some vT, some (.int day), some (.ref fd), none]) (H := upd H fd (.lst [])) ok (ea_cons (ef_var rfl (fB.sm s1)) (ea_cons (ef_var rfl (fT.sm s1)) (ea_cons (ef_of_int (ev_var rfl)) ea_nil)))
    refine hd _ (.refl _) _ fun v4 H2 s2 ⟨ds, hp, L, ys, ev, hnL, hL, fL⟩ => ?_
    subst ev
    have hlen : ds.length ≤ 40000 := by
      rw [hp.length_eq]
      have := ok.fit.len
      show ((walkEnd book t day).1.falls.map _).length ≤ _
      rw [List.length_map]
      exact this
    refine ⟨L, rfl, ⟨ys, sqL_of hL⟩, for_list (xs := ys) (fun i σ' H' => (∃ z, σ' = [some vB, some vT, some (.int day), some (.ref fd), z]) ∧ Same H H' ∧ (TK H2 H' ∧ H' L = some (.lst ys)) ∧ ∃ ws, H' fd = some (.lst ws) ∧ FzA H' ws (((ds.take i).filter fun e : Told => decide (e.left t = 0)).map fun e : Told => NestedKey.tup [.text e.ower, .text e.owed, e.page.key, .tup (ik e.falls)]))
      ⟨⟨_, rfl⟩, s1.trans s2, ⟨.refl _, hL⟩, [], s2 _ _ upd_same, .nil⟩ (fun i σ' H' _ p => sqL_of p.2.2.1.2) (fun i x σ' H' hi ⟨⟨z, hz⟩, s3, ⟨t3, l3⟩, ws, hws, fws⟩ => ?_) (fun σ' H' ⟨⟨z, hz⟩, s3, ⟨t3, l3⟩, ws, hws, fws⟩ => ?_)⟩
    · subst hz
      obtain ⟨k, hk, fk⟩ := fL.get hi
      rw [List.getElem?_map] at hk
      obtain ⟨e, he, rfl⟩ := Option.map_eq_some_iff.mp hk
      have fe := fk.tk t3
      have nLf : L ≠ fd := fun zz => by rw [zz, upd_same] at hnL; cases hnL
      have ht : (ds.take (i + 1)).filter (fun e => decide (e.left t = 0)) = (ds.take i).filter (fun e => decide (e.left t = 0)) ++ if decide (e.left t = 0) then [e] else [] := by
        rw [List.take_add_one, he]
        simp only [Option.toList_some, List.filter_append]
        congr 1
        by_cases h : e.left t = 0 <;> simp [h]
      refine s_if (et_test (ev_eqI (ev_of_int (ef_callR (ea_cons (ef_var (i := 1) rfl (fT.sm s3)) (ea_cons (ef_var (i := 4) rfl fe) ea_nil)) ⟨t, e, rfl, rfl⟩)) ev_c)) (fun hb H4 s4 => ?_) (fun hb H4 s4 => ?_)
      · rw [if_pos hb] at ht
        have hwl : ws.length < 100000 := by
          rw [fws.length, List.length_map]
          have h1 : ((ds.take i).filter fun e => decide (e.left t = 0)).length ≤ (ds.take i).length := List.length_filter_le _ _
          rw [List.length_take] at h1
          omega
        have fe4 := fe.sm s4
        refine s_app (P := fun v H => Fz H v (.tup [.text e.ower, .text e.owed, e.page.key, .tup (ik e.falls)])) kp_fz (ev_var (i := 3) rfl) (ef_tup (ks := [.text e.ower, .text e.owed, e.page.key, .tup (ik e.falls)]) (ea_cons (told_ix (i := 4) (m := 0) rfl fe4 rfl) (ea_cons (told_ix (i := 4) (m := 1) rfl fe4 rfl) (ea_cons (told_ix (i := 4) (m := 3) rfl fe4 rfl) (ea_cons (told_ix (i := 4) (m := 4) rfl fe4 rfl) ea_nil))))) (s4 _ _ hws) hwl fun v5 H5 s5 f5 => ?_
        have hws5 := s5 _ _ (s4 _ _ hws)
        have t6 : TK H5 (upd H5 fd (.lst (ws ++ [v5]))) := TK.upd fun xs z => by rw [hws5] at z; cases z
        refine ⟨⟨_, rfl⟩, fun b o e => ?_, ⟨((t3.trans (.of_same s4)).trans (.of_same s5)).trans t6, by rw [upd_ne nLf]; exact s5 _ _ (s4 _ _ l3)⟩, _, upd_same, ?_⟩
        · rw [upd_ne (ne_of_none e hfd)]
          exact s5 _ _ (s4 _ _ (s3 _ _ e))
        · rw [ht, List.map_append]
          exact (((fws.sm s4).sm s5).tk t6).append (.one (f5.tk t6))
      · rw [if_neg (by rw [hb]; decide), List.append_nil] at ht
        refine ⟨⟨_, rfl⟩, s3.trans s4, ⟨t3.trans (.of_same s4), s4 _ _ l3⟩, ws, s4 _ _ hws, ?_⟩
        rw [ht]
        exact fws.sm s4
    · subst hz
      rw [fL.length, List.length_map, List.take_length] at fws
      exact ⟨_, rfl, q _ H' s3 ⟨ds, hp, fd, ws, rfl, hfd, hws, fws⟩⟩
def spRude : Sp := fun vs H Q _ => ∃ vB vT book t day, vs = [vB, vT, .int day] ∧ Fz H vB (.tup (book.map Page.key)) ∧ TermsF H vT t ∧ DuesOk book t day ∧ (∀ e ∈ toldL book t day, e.left t = 0 → e.falls ≠ []) ∧
  ∀ v H', Same H H' → (∃ ds : List Told, ds.Perm (toldL book t day) ∧ LW H H' v ((ds.filter fun e => decide (e.left t = 0)).map rudeK)) → Q v H'
noncomputable def rudeOf (k : NestedKey) : Told := @dite _ (∃ e : Told, NestedKey.tup [.text e.ower, .text e.owed, e.page.key, .tup (ik e.falls)] = k) (Classical.propDecidable _) (fun h => h.choose) (fun _ => ⟨"", "", false, .join 0 "" "", []⟩)
theorem rudeOf_eq (e : Told) : rudeK (rudeOf (.tup [.text e.ower, .text e.owed, e.page.key, .tup (ik e.falls)])) = rudeK e := by
  unfold rudeOf
  have h : ∃ e' : Told, NestedKey.tup [.text e'.ower, .text e'.owed, e'.page.key, .tup (ik e'.falls)] = .tup [.text e.ower, .text e.owed, e.page.key, .tup (ik e.falls)] := ⟨e, rfl⟩
  rw [dif_pos h]
  have := h.choose_spec
  injection this with h1
  injection h1 with h1 h2
  injection h2 with h2 h3
  injection h3 with h3 h4
  injection h4 with h4 _
  injection h1 with h1
  injection h2 with h2
  injection h4 with h4
  have h4 := num_inj h4
  unfold rudeK
  rw [h1, h2, h3, h4]
theorem cutTake3 {ks : List NestedKey} {a b c : NestedKey} {r : List NestedKey} (h : ks = a :: b :: c :: r) : cutK ks none (some 3) = [a, b, c] := by
  subst h
  unfold cutK
  have e1 : HT.sIx (a :: b :: c :: r).length 0 none = 0 := rfl
  have e2 : HT.sIx (a :: b :: c :: r).length (a :: b :: c :: r).length (some 3) = 3 := by
    simp [HT.sIx]
  rw [e1, e2] <;> rfl
theorem sc_rude : FnScope ["book", "terms", "day", "paper"] ["book", "terms", "day"] (defScope s_rude) := ⟨rfl, rfl, rfl, by decide +kernel, rfl, by decide +kernel, by decide +kernel⟩
theorem ok_rude (T : Txt K mg CH CW aK aA aG) (D : Dat K mg "rude" "rude" s_rude ["book", "terms", "day"]) (G_rude_papers : OK P w K mg base 17 "rude_papers" ["book", "terms", "day"] spRudeP) : OK P w K mg base 19 "rude" ["book", "terms", "day"] spRude := by
  refine ok_mk D sc_rude (fun vs H Q E h => ?_) (fun f cdv A outer s H vs Q E hr h => ?_)
  · obtain ⟨vB, vT, book, t, day, rfl, _⟩ := h
    rfl
  · obtain ⟨vB, vT, book, t, day, rfl, fB, fT, ok, hne, q⟩ := h
    refine ⟨_, (pss_one (ps_ret (pe_lc (own := [("paper", 3)]) rfl sc_rude.nd (pi_list (px_call G_rude_papers (hr.mono (by decide)) (by rfl) (pa_cons (pv 0) (pa_cons (pv 1) (pa_cons (pv 2) pa_nil))))) (blkOk_by (own := [("paper", 3)]) (N := ["book", "terms", "day", "paper"]) (sc := defScope s_rude) (by decide +kernel)) (fun _ _ _ _ _ => (pg_name (i := 3) sc_rude.nd rfl (Or.inl rfl))) (fun _ _ _ _ _ => pts_nil) (fun _ _ _ _ _ => (pe_op (r := rCatA K) op_catA (pe_slice (r := rSlA K) sl_tupA (pv 3) po_none (po_some pe_int)) (pe_tup (pa_cons (pe_ix (r := rIxT K) ix_tup (pe_ix (r := rIxT K) ix_tup (pv 3) pe_int (fun _ _ => rfl)) (pe_un un_neg pe_int) (fun _ _ => rfl)) pa_nil))))))), ?_⟩
    refine s_ret (P := fun v H' => ∃ ds : List Told, ds.Perm (toldL book t day) ∧ LW H H' v ((ds.filter fun e => decide (e.left t = 0)).map rudeK)) (fun H3 s3 Q3 q3 => ?_) fun v H3 s3 h => q v H3 s3 h
    refine ⟨_, rfl, _, rfl, _, rfl, vB, vT, book, t, day, rfl, fB.sm s3, fT.sm s3, ok, fun v4 H4 s4 ⟨ds, hp, lw⟩ => ?_⟩
    obtain ⟨L, ys, rfl, hnL, hL, fL⟩ := lw
    have B := el_lcL (K := K) (σ := [some vB, some vT, some (.int day), none]) (H := H4) (tl := fun σ H Q => Q (.ref L) H) (vs := [3]) (j := 3) (tt := tYes) (te := tOp (rCatA K) (tSl (rSlA K) (tVar 3) tNoPart (tPart (tC (.int 3)))) (tTup (tCons (tOp (rIxT K) (tOp (rIxT K) (tVar 3) (tC (.int 3))) (tUn (rU fun i => .int (-i)) (tC (.int 1)))) tNil))) (js := (ds.filter fun e => decide (e.left t = 0)).map fun e => .tup [.text e.ower, .text e.owed, e.page.key, .tup (ik e.falls)]) (fun _ => true) (fun k => rudeK (rudeOf k)) (fun H5 s5 Q5 q5 => q5 _ H5 (.refl _) ⟨L, ys, rfl, sqL_of (s5 _ _ hL), fL.sm s5⟩) (by
        rw [List.length_map]
        have h1 : (ds.filter fun e => decide (e.left t = 0)).length ≤ ds.length := List.length_filter_le _ _
        rw [hp.length_eq] at h1
        have := ok.fit.len
        have h2 : (toldL book t day).length = (walkEnd book t day).1.falls.length := List.length_map _
        omega) (fun _ => rfl) (fun _ _ _ _ _ _ => et_yes) (fun z k H5 hk s5 fz _ => by
          obtain ⟨e, he, rfl⟩ := List.mem_map.mp hk
          rw [rudeOf_eq]
          rw [List.mem_filter] at he
          have hn := hne e (hp.mem_iff.mp he.1) (of_decide_eq_true he.2)
          obtain ⟨x, hx⟩ := Option.isSome_iff_exists.mp (by rw [List.getLast?_isSome]; exact hn : e.falls.getLast?.isSome = true)
          have := ef_cat (K := K) ((ef_sl (K := K) (σ := (wipe [some vB, some vT, some (.int day), none] [3]).set 3 (some z)) (ef_var (i := 3) rfl fz) eo_none (eo_some (ev_c (v := .int 3)))).ofF (j := .tup [.text e.ower, .text e.owed, e.page.key]) (congrArg NestedKey.tup (cutTake3 rfl))) (ef_tup (ks := [.num x]) (ea_cons (ef_ix (K := K) (ef_ix (K := K) (ef_var (i := 3) rfl fz) (ev_c (v := .int 3)) (atI_of (n := 3) rfl)) ev_m1 (atI_last (ik_last hx))) ea_nil)) (by simp)
          unfold rudeK
          rw [hx]
          exact this)
    refine B H4 (.refl _) _ fun v5 H5 s5 lw => q3 v5 H5 (s4.trans s5) ⟨ds, hp, (lw.back (s3.trans s4)) |> fun l => ?_⟩
    have e : (((ds.filter fun e => decide (e.left t = 0)).map fun e => NestedKey.tup [.text e.ower, .text e.owed, e.page.key, .tup (ik e.falls)]).filter fun _ => true).map (fun k => rudeK (rudeOf k)) = (ds.filter fun e => decide (e.left t = 0)).map rudeK := by
      rw [List.filter_eq_self.mpr (fun _ _ => rfl), List.map_map]
      exact List.map_congr_left fun e _ => rudeOf_eq e
    rw [e] at l
    exact l
end
end K34
namespace K34
open PySem PySem.Spec L2

section
variable {P : Program} {w : World} {K : PySem.W.Frag} {mg : Str → Option Value} {base : Heap} {CH CW aK aA aG : Addr} {H H' : Hp} {σ : St} {ta tb : TE} {x y v : V}
def withP (book : List Page) (day : Int) (pg : Page) : List Page := sortP (upTo book day ++ [pg])
def spWould : Sp := fun vs H Q _ => ∃ vB vT vP book t day pg mk, vs = [vB, vT, .int day, vP] ∧ Fz H vB (.tup (book.map Page.key)) ∧ TermsF H vT t ∧ Fz H vP (Page.key pg) ∧ book.length ≤ 700 ∧ (upTo book day ++ [pg]).Nodup ∧ BookOk (withP book day pg) t pg.day ∧ (walkEnd (withP book day pg) t pg.day).2.length ≤ 900 ∧
  ((walkEnd (withP book day pg) t pg.day).2.filter fun e => decide (e.1 = pg)).head? = some (pg, mk) ∧ ∀ v H', Same H H' → Fz H' v mk → Q v H'
theorem sc_would : FnScope ["book", "terms", "day", "page", "told", "one", "mark"] ["book", "terms", "day", "page"] (defScope s_would) := ⟨rfl, rfl, rfl, by decide +kernel, rfl, by decide +kernel, by decide +kernel⟩
theorem ok_would (T : Txt K mg CH CW aK aA aG) (D : Dat K mg "would" "would" s_would ["book", "terms", "day", "page"]) (G_marks : OK P w K mg base 15 "marks" ["book", "terms", "day"] (spMarks K)) (G_with_page : OK P w K mg base 6 "with_page" ["book", "page"] (fspR withR)) (G_up_to : OK P w K mg base 3 "up_to" ["book", "day"] (fspR upToR)) (G_page_day : OK P w K mg base 1 "page_day" ["page"] (fsp (r_at 1))) :
    OK P w K mg base 17 "would" ["book", "terms", "day", "page"] spWould := by
  refine ok_mk D sc_would (fun vs H Q E h => ?_) (fun f cdv A outer s H vs Q E hr h => ?_)
  · obtain ⟨vB, vT, vP, book, t, day, pg, mk, rfl, _⟩ := h
    rfl
  · obtain ⟨vB, vT, vP, book, t, day, pg, mk, rfl, fB, fT, fP, hz, nd, bk, hl9, hmk, q⟩ := h
    have hu := hr.units
    have hu0 := hr.units0
    have hu1 : _ + 1 < cLine := Nat.lt_of_le_of_lt (Nat.add_le_add_left (by decide : 1 ≤ 64) _) hu
    refine ⟨_, (pss_cons (ps_set (i := 4) sc_would.nd rfl (Or.inl rfl) (px_call G_marks (hr.mono (by decide)) (by rfl) (pa_cons (px_call G_with_page (hr.mono (by decide)) (by rfl) (pa_cons (px_call G_up_to (hr.mono (by decide)) (by rfl) (pa_cons (pv 0) (pa_cons (pv 2) pa_nil))) (pa_cons (pv 3) pa_nil))) (pa_cons (pv 1) (pa_cons (px_call G_page_day (hr.mono (by decide)) (by rfl) (pa_cons (pv 3) pa_nil)) pa_nil))))) (pss_one (ps_ret (pe_ix ix_list (pe_lc (own := [("one", 5), ("mark", 6)]) rfl sc_would.nd (pi_list (pv 4)) (blkOk_by (own := [("one", 5), ("mark", 6)]) (N := ["book", "terms", "day", "page", "told", "one", "mark"]) (sc := defScope s_would) (by decide +kernel)) (fun _ _ _ _ _ => (show PG _ _ (gTup K 2 _) from pg_tup rfl (pgs_cons (pg_name (i := 5) sc_would.nd rfl (Or.inl rfl)) (pgs_cons (pg_name (i := 6) sc_would.nd rfl (Or.inl rfl)) pgs_nil)))) (fun _ _ _ _ _ => (pts_one (pt_cmpR (op_eqT hu) (pv 5) (pv 3) (nomark _)))) (fun _ _ _ _ _ => (pv 6))) pe_int (fun _ _ => rfl))))), ?_⟩
    refine q_asg (P := fun v H2 => LF K H2 v ((walkEnd (withP book day pg) t pg.day).2.map markK)) (ep_callE (A := fun vs H2 => FzA H2 vs [.tup ((withP book day pg).map Page.key), .tup [.num t.1, .num t.2], .num pg.day]) (ea_cons (ef_callR (ea_cons (ef_callR (ea_cons (ef_var (i := 0) rfl fB) (ea_cons (ef_of_int (ev_var (i := 2) rfl)) ea_nil)) ⟨book, day, rfl, by omega, rfl⟩) (ea_cons (ef_var (i := 3) rfl fP) ea_nil)) ⟨upTo book day, pg, rfl, nd, Nat.le_trans (List.length_filter_le _ _) (by omega), rfl⟩) (ea_cons (ef_var (i := 1) rfl fT) (ea_cons (ef_call (ea_cons (ef_var (i := 3) rfl fP) ea_nil) rfl) ea_nil))) fun vs H2 s2 fa Q2 q2 => ?_) fun v4 H1 s1 lf => ?_
    · obtain ⟨u1, u2, u3, rfl, g1, g2, g3⟩ := fa.three_inv
      obtain rfl := g3.int_inv
      exact ⟨u1, u2, _, t, pg.day, rfl, g1, g2, bk, q2⟩
    · obtain ⟨L, ys, rfl, hL, fL⟩ := lf
      have B := ep_lcL (K := K) (σ := [some vB, some vT, some (.int day), some vP, some (.ref L), none, none]) (H := H1) (tl := tVar 4) (g := gTup K 2 (gCons (gName 5) (gCons (gName 6) gNil))) (vs := [5, 6]) (tt := tTest (tOp rEqT (tVar 5) (tVar 3))) (te := tVar 6) (S := fun x (e : Page × NestedKey) => Fz H1 x (markK e)) (R := fun H y k => Fz H y k) (p := fun e => decide (e.1 = pg)) (e := fun e => e.2) (is := (walkEnd (withP book day pg) t pg.day).2) (xs := ys) (fun H2 s2 Q2 q2 => ⟨_, rfl, q2 _ H2 (.refl _) ⟨L, rfl, s2.seq hL⟩⟩) fL.map_paired (by omega)
        ⟨fun H H' y a s q => q.sm s, fun H H' D ys zs y a h1 h2 q => by subst h2; exact q.tk (TK.upd fun xs z => by rw [h1] at z; cases z), fun x e he fx H2 s2 => by
          obtain ⟨b, xs, rfl, hb, fz⟩ := (fx.sm s2).tup_inv
          obtain ⟨w1, w2, rfl, g1, g2⟩ := fz.two_inv
          refine ⟨[some vB, some vT, some (.int day), some vP, some (.ref L), some w1, some w2], rfl, fun H' Q s3 q => ⟨b, _, rfl, sqT_of (s3 _ _ hb), rfl, _, _, rfl, _, _, rfl, rfl, q⟩, ?_, fun _ => ef_var (i := 6) rfl g2⟩
          refine (et_test (ev_eqT (ks := e.1.items) (js := pg.items) (ef_var (i := 5) rfl g1) (ef_var (i := 3) rfl ((fP.sm s1).sm s2)) (Nat.le_trans e.1.depth (by decide)))).of ?_
          by_cases h : e.1 = pg
          · simp [h]
          · have : ¬ e.1.items = pg.items := fun z => h (Page.key_inj (congrArg NestedKey.tup z))
            simp [h, this]⟩
      have B2 : EvP (tLc (iList K (tVar 4)) (gTup K 2 (gCons (gName 5) (gCons (gName 6) gNil))) (tTest (tOp rEqT (tVar 5) (tVar 3))) (tVar 6) [5, 6]) [some vB, some vT, some (.int day), some vP, some (.ref L), none, none] H1 (fun v H2 => LF K H2 v (((walkEnd (withP book day pg) t pg.day).2.filter fun e => decide (e.1 = pg)).map fun e => e.2)) := B.imp fun v H2 s2 ⟨D, zs, e, _, hD, hp⟩ => ⟨D, zs, e, sqL_of hD, FzA.of_paired hp⟩
      refine s_ret (ef_ixL B2 ev_c (atI_of (n := 0) ?_)) fun v5 H5 s5 f5 => q v5 H5 (s1.trans s5) f5
      rw [List.getElem?_map, ← List.head?_eq_getElem?, hmk] <;> rfl
def standB (e : Told) : NestedKey → Bool
  | .tup its => decide (its.take 2 = [.text e.ower, .text e.owed]) && decide (e.page.key ∈ its)
  | _ => false
theorem cut_take {ks : List NestedKey} (h : 2 ≤ ks.length) : cutK ks none (some 2) = ks.take 2 := by
  match ks, h with
  | a :: b :: r, _ => rw [cutTake2 rfl] <;> rfl
theorem take2_depth : ∀ its : List NestedKey, NestedKey.depthAll (its.take 2) ≤ NestedKey.depthAll its
  | [] => Nat.le_refl _
  | [_] => Nat.le_refl _
  | a :: b :: r => by simp [NestedKey.depthAll]; omega
def spStands (K : PySem.W.Frag) : Sp := fun vs H Q _ => ∃ v vd ks e, vs = [v, vd] ∧ LF K H v ks ∧ Fz H vd (Told.key e) ∧ (∀ k ∈ ks, ∃ its, k = NestedKey.tup its ∧ 2 ≤ its.length ∧ k.depth ≤ 8) ∧ ks.length ≤ 80000 ∧ ∀ v' H', Same H H' → LW H H' v' (ks.filter (standB e)) → Q v' H'
theorem sc_L_stands : FnScope ["_law_some", "_law_due", "_law_one"] ["_law_some", "_law_due"] (defScope s_L_stands) := ⟨rfl, rfl, rfl, by decide +kernel, rfl, by decide +kernel, by decide +kernel⟩
theorem ok_stands (T : Txt K mg CH CW aK aA aG) (D : Dat K mg "_law_stands" "_law_stands" s_L_stands ["_law_some", "_law_due"]) : OK P w K mg base 1 "_law_stands" ["_law_some", "_law_due"] (spStands K) := by
  refine ok_mk D sc_L_stands (fun vs H Q E h => ?_) (fun f cdv A outer s H vs Q E hr h => ?_)
  · obtain ⟨v, vd, ks, e, rfl, _⟩ := h
    rfl
  · obtain ⟨v, vd, ks, e, rfl, lf, fe, hk, hz, q⟩ := h
    have hu := hr.units
    have hu0 := hr.units0
    have hu1 : _ + 1 < cLine := Nat.lt_of_le_of_lt (Nat.add_le_add_left (by decide : 1 ≤ 64) _) hu
    refine ⟨_, (pss_one (ps_ret (pe_lc (own := [("_law_one", 2)]) rfl sc_L_stands.nd (pi_list (pv 0)) (blkOk_by (own := [("_law_one", 2)]) (N := ["_law_some", "_law_due", "_law_one"]) (sc := defScope s_L_stands) (by decide +kernel)) (fun _ _ _ _ _ => (pg_name (i := 2) sc_L_stands.nd rfl (Or.inl rfl))) (fun _ _ _ _ _ => (pts_one (pw_and (pt_cmpR (op_eqT hu) (pe_slice (r := rSlA K) sl_tupA (pv 2) po_none (po_some pe_int)) (pe_slice (r := rSlA K) sl_tupA (pv 1) po_none (po_some pe_int)) (nomark _)) (pw_and1 (pt_cmpR (r := rInK K) (op_inK hu) (pe_ix (r := rIxT K) ix_tup (pv 1) pe_int (fun _ _ => rfl)) (pv 2) (by with_unfolding_all rfl)))).pt)) (fun _ _ _ _ _ => (pv 2))))), ?_⟩
    refine s_ret ((el_lcL (K := K) (standB e) id (ep_var (P := fun v H => LF K H v ks) rfl kp_lf lf) (by omega) (fun _ => rfl) (fun x k H1 hkm s1 fx => ?_) (fun x k H1 hkm s1 fx _ => ef_var rfl fx)).imp fun v H2 s2 h => by rw [List.map_id] at h; exact h) q
    obtain ⟨its, rfl, h2, hd⟩ := hk k hkm
    have fe1 := fe.sm s1
    have h4 : NestedKey.depth (.tup (its.take 2)) ≤ 8 := by
      have := take2_depth its
      simp only [NestedKey.depth] at hd ⊢
      omega
    refine (et_and (et_test (ev_eqT ((ef_sl (K := K) (ef_var (i := 2) rfl fx) eo_none (eo_some (ev_c (v := .int 2)))).ofF (congrArg NestedKey.tup (cut_take h2))) ((ef_sl (K := K) (ks := e.items) (ef_var (i := 1) rfl fe1) eo_none (eo_some (ev_c (v := .int 2)))).ofF (congrArg NestedKey.tup (told_cut e))) h4)) fun _ => et_test (ev_inT (told_ix (i := 1) (m := 3) rfl fe1 rfl) (Nat.le_trans e.page.depth (by decide)) (ef_var (i := 2) rfl fx))).of ?_
    rfl
/-! ### draws -/
def fd4 (l : Addr) (at_ left turn : Int) : List (Key × V) := [(kS "cells", .ref l), (kS "at", .int at_), (kS "left", .int left), (kS "turn", .int turn)]
/-- a feed stands at f; N: a bound of its turns -/
def FeedAt (H : Hp) (f l : Addr) (N : Nat) : Prop := ∃ at_ left turn xs, H f = some (.dK (fd4 l at_ left turn)) ∧ H l = some (.lst (List.map V.int xs)) ∧ 0 ≤ at_ ∧ 0 ≤ left ∧ 0 ≤ turn ∧ turn ≤ (N : Int)
theorem Kp.refl (p : Addr) (H : Hp) : Kp p H H := ⟨fun _ _ e _ => e, fun _ h => h⟩
theorem FeedAt.tk {f l : Addr} {N : Nat} (h : FeedAt H f l N) (k : Kp f H H') : TK H H' := fun a xs e => k.keep a _ e fun z => by
  obtain ⟨at_, left, turn, ys, hf, _⟩ := h
  rw [z, hf] at e
  cases e
theorem FeedAt.sm {f l : Addr} {N : Nat} (h : FeedAt H f l N) (s : Same H H') : FeedAt H' f l N := let ⟨a1, a2, a3, xs, h1, h2, h3⟩ := h; ⟨a1, a2, a3, xs, s _ _ h1, s _ _ h2, h3⟩
theorem FeedAt.ne {f l : Addr} {N : Nat} (h : FeedAt H f l N) : H f ≠ none ∧ H l ≠ none := let ⟨_, _, _, _, h1, h2, _⟩ := h; ⟨fun z => (by rw [h1] at z; cases z), fun z => (by rw [h2] at z; cases z)⟩
/-- another thing changes -/
theorem FeedAt.oth {f l b : Addr} {N : Nat} {o : HO} (h : FeedAt H f l N) (n1 : b ≠ f) (n2 : b ≠ l) : FeedAt (upd H b o) f l N := let ⟨a1, a2, a3, xs, h1, h2, h3⟩ := h; ⟨a1, a2, a3, xs, by rw [upd_ne n1.symm]; exact h1, by rw [upd_ne n2.symm]; exact h2, h3⟩
theorem Kp.own {p b : Addr} {H0 H : Hp} {o : HO} (k : Kp p H0 H) (h : H0 b = none) : Kp p H0 (L2.upd H b o) := ⟨fun c u e n => (by rw [upd_ne (ne_of_none e h)]; exact k.keep c u e n), fun c e => (by
  by_cases z : c = b
  · rw [z]; exact h
  · rw [upd_ne z] at e; exact k.live c e)⟩
theorem FeedAt.mono {f l : Addr} {N M : Nat} (h : FeedAt H f l N) (le : N ≤ M) : FeedAt H f l M := let ⟨a1, a2, a3, xs, h1, h2, h3, h4, h5, h6⟩ := h; ⟨a1, a2, a3, xs, h1, h2, h3, h4, h5, by omega⟩
def spFeed (K : PySem.W.Frag) : Sp := fun vs H Q _ => ∃ (v : Addr) (ns : List Int), vs = [.ref v] ∧ SqL K H v (ns.map V.int) ∧ ∀ f l H', Same H H' → H f = none → H l = none → FeedAt H' f l 0 → Q (.ref f) H'
def spDraw : Sp := fun vs H Q _ => ∃ f l N m, vs = [.ref f, .int m] ∧ FeedAt H f l N ∧ 0 < m ∧ m < 2 ^ 29 ∧ N < 2 ^ 40 ∧ ∀ r H', 0 ≤ r → r < m → Kp f H H' → FeedAt H' f l (N + 1) → Q (.int r) H'
theorem cutV_ints (ns : List Int) (lo hi : Option Int) : ∃ ms : List Int, cutV (ns.map V.int) lo hi = ms.map V.int := by
  unfold cutV
  exact ⟨_, by rw [← List.map_drop, ← List.map_take]⟩
theorem sc_L_feed : FnScope ["_law_script"] ["_law_script"] (defScope s_L_feed) := ⟨rfl, rfl, rfl, by decide +kernel, rfl, by decide +kernel, by decide +kernel⟩
theorem ok_feed (T : Txt K mg CH CW aK aA aG) (D : Dat K mg "_law_feed" "_law_feed" s_L_feed ["_law_script"]) : OK P w K mg base 1 "_law_feed" ["_law_script"] (spFeed K) := by
  refine ok_mk D sc_L_feed (fun vs H Q E h => ?_) (fun f cdv A outer s H vs Q E hr h => ?_)
  · obtain ⟨v, ns, rfl, _⟩ := h
    rfl
  · obtain ⟨v, ns, rfl, hv, q⟩ := h
    refine ⟨_, (pss_one (ps_ret (pe_disp (pps_cons pe_str (pe_callTy call_list_of (by rfl) T.list b_list (pa_cons (pe_slice sl_list (pv 0) po_none (po_some pe_int)) pa_nil)) (pps_cons pe_str pe_int (pps_cons pe_str pe_int (pps_cons pe_str pe_int pps_nil)))) (by rfl) (by rfl) (fun z => by cases z) (by decide)))), ?_⟩
    intro f hf
    have s1 := Same.new (o := .dK []) hf
    refine ⟨_, rfl, _, rfl, v, ns.map V.int, rfl, s1.seq hv, fun p hp => ?_⟩
    obtain ⟨ms, ems⟩ := cutV_ints ns none (some 63)
    rw [ems]
    have s2 := Same.new (o := .lst (ms.map V.int)) hp
    refine ⟨p, ms.map V.int, rfl, .inl (sqL_of upd_same), fun l hl => ?_⟩
    have n1 : f ≠ p := ne_of_none upd_same hp
    have n2 : f ≠ l := ne_of_none (by rw [upd_ne n1]; exact upd_same) hl
    refine ⟨(by rw [upd_ne n2, upd_ne n1]; exact upd_same), fd4 l 0 0 0, rfl, (by show (4 : Nat) ≤ 15; decide), ?_⟩
    have e : mergeK [] (fd4 l 0 0 0) = fd4 l 0 0 0 := rfl
    rw [e]
    refine q f l _ (fun b o h => ?_) hf (s1.free (s2.free hl)) ⟨0, 0, 0, ms, upd_same, by rw [upd_ne n2.symm]; exact upd_same, Int.le_refl _, Int.le_refl _, Int.le_refl _, Int.le_refl _⟩
    have h1 := s1 _ _ h
    rw [upd_ne (ne_of_none h hf), upd_ne (ne_of_none (Same.new hp _ _ h1) hl), upd_ne (ne_of_none h1 hp)]
    exact h1
end
end K34
namespace K34
open PySem PySem.Spec L2

section
variable {P : Program} {w : World} {K : PySem.W.Frag} {mg : Str → Option Value} {base : Heap} {CH CW aK aA aG : Addr} {H H' : Hp} {σ : St} {ta tb : TE} {x y v : V} {f l : Addr} {a b c : Int}
theorem fget1 : valV (fd4 l a b c) (kS "cells") = some (.ref l) := rfl
theorem fget2 : valV (fd4 l a b c) (kS "at") = some (.int a) := rfl
theorem fget3 : valV (fd4 l a b c) (kS "left") = some (.int b) := rfl
theorem fget4 : valV (fd4 l a b c) (kS "turn") = some (.int c) := rfl
theorem fput2 {i : Int} : putK (fd4 l a b c) (kS "at") (.int i) = fd4 l i b c := rfl
theorem fput3 {i : Int} : putK (fd4 l a b c) (kS "left") (.int i) = fd4 l a i c := rfl
theorem fput4 {i : Int} : putK (fd4 l a b c) (kS "turn") (.int i) = fd4 l a b i := rfl
theorem q_ifSet {tt : TT} {te : TE} {i : Nat} {tz : TS} {D : Ends} {bb : Bool} {R : V → Hp → Prop} (z0 : V) (h : EvT tt σ H bb) (hv : bb = true → ∀ H1, Same H H1 → EvP te σ H1 R) (h0 : σ.set i (some z0) = σ) (hz : ∀ H, bb = false → R z0 H) (k : ∀ z H1, Same H H1 → R z H1 → tz D (σ.set i (some z)) H1) :
    tSeq (tIfS tt (tAsg te (gName i)) tNext) tz D σ H :=
  seqi (s_if h (fun hb H1 s1 => s_asg (hv hb H1 s1) fun z H2 s2 r => k z H2 (s1.trans s2) r) (fun hb H1 s1 => by
    have := k z0 H1 s1 (hz H1 hb)
    rw [h0] at this
    exact this))
theorem pow_lt {i : Int} (h0 : 0 ≤ i) (h1 : i < 2 ^ 63) : CPow i 5 := ⟨by decide, by decide, by omega⟩
theorem sc_L_draw : FnScope ["_law_feed_here", "_law_many", "_law_turn", "_law_found", "_law_at", "_law_cell", "_law_mixed"] ["_law_feed_here", "_law_many"] (defScope s_L_draw) := ⟨rfl, rfl, rfl, by decide +kernel, rfl, by decide +kernel, by decide +kernel⟩
theorem ok_draw (T : Txt K mg CH CW aK aA aG) (D : Dat K mg "_law_draw" "_law_draw" s_L_draw ["_law_feed_here", "_law_many"]) : OK P w K mg base 1 "_law_draw" ["_law_feed_here", "_law_many"] spDraw := by
  refine ok_mk D sc_L_draw (fun vs H Q E h => ?_) (fun f0 cdv A outer s H vs Q E hr h => ?_)
  · obtain ⟨f, l, N, m, rfl, _⟩ := h
    rfl
  · obtain ⟨f, l, N, m, rfl, ⟨at0, le, tu, xs, hf, hl, h1, h2, h3, h4⟩, hm, hm2, hN, q⟩ := h
    have hu := hr.units
    have hu0 := hr.units0
    have hu1 : _ + 1 < cLine := Nat.lt_of_le_of_lt (Nat.add_le_add_left (by decide : 1 ≤ 64) _) hu
    refine ⟨_, (pss_cons (ps_set (i := 2) sc_L_draw.nd rfl (Or.inl rfl) (pe_op op_add (pe_dget hu1 (pv 0) pe_str (fun _ _ => rfl)) pe_int)) (pss_cons (ps_dput hu1 (pv 0) pe_str (pv 2) rfl) (pss_cons (ps_if (pt_cmpR op_gt (pe_dget hu1 (pv 0) pe_str (fun _ _ => rfl)) pe_int (nomark _)) (pss_cons (ps_set (i := 3) sc_L_draw.nd rfl (Or.inl rfl) (pe_op op_mod (pe_dget hu1 (pv 0) pe_str (fun _ _ => rfl)) (pv 1))) (pss_cons (ps_dput hu1 (pv 0) pe_str (pe_op op_fdiv (pe_dget hu1 (pv 0) pe_str (fun _ _ => rfl)) (pv 1)) rfl) (pss_one (ps_ret (pv 3))))) pss_nil) (pss_cons (ps_set (i := 4) sc_L_draw.nd rfl (Or.inl rfl) (pe_dget hu1 (pv 0) pe_str (fun _ _ => rfl))) (pss_cons (ps_dput hu1 (pv 0) pe_str (pe_op op_add (pv 4) pe_int) rfl) (pss_cons (ps_set (i := 5) sc_L_draw.nd rfl (Or.inl rfl) pe_int) (pss_cons (ps_if (pt_cmpR (op_neN hu) (pe_dget hu1 (pv 0) pe_str (fun _ _ => rfl)) (pe_lst pa_nil) (nomark _)) (pss_one (ps_set (i := 5) sc_L_draw.nd rfl (Or.inl rfl) (pe_ix ix_list (pe_dget hu1 (pv 0) pe_str (fun _ _ => rfl)) (pe_op op_mod (pv 4) (pe_callB call_lenK (by rfl) T.len b_len (pa_cons (pe_dget hu1 (pv 0) pe_str (fun _ _ => rfl)) pa_nil))) (fun _ _ => rfl)))) pss_nil) (pss_cons (ps_if (pw_and (pt_cmpR op_ge (pv 5) (pe_op op_pow pe_int pe_int) (nomark _)) (pw_and1 (pt_cmpR op_lt (pv 4) (pe_callB call_lenK (by rfl) T.len b_len (pa_cons (pe_dget hu1 (pv 0) pe_str (fun _ _ => rfl)) pa_nil)) (nomark _)))).pt (pss_cons (ps_dput hu1 (pv 0) pe_str (pe_op op_fdiv (pv 5) (pv 1)) rfl) (pss_one (ps_ret (pe_op op_mod (pv 5) (pv 1))))) pss_nil) (pss_cons (ps_set (i := 6) sc_L_draw.nd rfl (Or.inl rfl) (pe_op op_mod (pe_op op_pow (pe_op op_add (pe_op op_add (pe_op op_mod (pv 5) pe_int) (pe_op op_mul pe_int (pv 2))) pe_int) pe_int) pe_int)) (pss_cons (ps_set (i := 6) sc_L_draw.nd rfl (Or.inl rfl) (pe_op op_mod (pe_op op_pow (pe_op op_add (pv 6) (pe_op op_mul pe_int (pv 2))) pe_int) pe_int)) (pss_one (ps_ret (pe_op op_mod (pe_op op_fdiv (pv 6) pe_int) (pv 1)))))))))))))), ?_⟩
    have nlf : l ≠ f := ne_of hl hf (fun z => by cases z)
    refine q_asg (P := fun u _ => u = .int (tu + 1)) (ev_I0 (g := fun i j => .int (i + j)) (ev_dget (ev_var (i := 0) rfl) ev_c hf fget4) ev_c) fun v1 H1 s1 e1 => ?_
    subst e1
    refine seqi (s_dput (P := fun u _ => u = .int (tu + 1)) kp_ev (ev_var (i := 2) rfl) (ev_var (i := 0) rfl) ev_c (s1 _ _ hf) (by show (4 : Nat) < 100000; decide) fun v2 H2 s2 e2 => ?_)
    subst e2
    dsimp only
    rw [fput4]
    have k2 : Kp f H (upd H2 f (.dK (fd4 l at0 le (tu + 1)))) := (Kp.of_same (s1.trans s2)).trans (.upd (s2 _ _ (s1 _ _ hf)))
    have hf2 : upd H2 f (.dK (fd4 l at0 le (tu + 1))) f = some (.dK (fd4 l at0 le (tu + 1))) := upd_same
    have hl2 := k2.keep _ _ hl nlf
    generalize upd H2 f (.dK (fd4 l at0 le (tu + 1))) = H3 at *
    refine seqi (s_if (et_test (ev_I0 (g := fun i j => .bl (decide (j < i))) (ev_dget (ev_var (i := 0) rfl) ev_c hf2 fget3) (ev_c (v := .int 0)))) (fun hb H4 s4 => ?_) (fun hb H4 s4 => ?_))
    · have hf4 := s4 _ _ hf2
      refine q_asg (P := fun u _ => u = .int (le % m)) (ev_I (g := fun i j => .int (i % j)) (ev_dget (ev_var (i := 0) rfl) ev_c hf4 fget3) (ev_var (i := 1) rfl) hm) fun v5 H5 s5 e5 => ?_
      subst e5
      have hf5 := s5 _ _ hf4
      refine seqi (s_dput (P := fun u _ => u = .int (le / m)) kp_ev (ev_I (C := CDiv) (g := fun i j => .int (i / j)) (ev_dget (ev_var (i := 0) rfl) ev_c hf5 fget3) (ev_var (i := 1) rfl) ⟨hm, by omega⟩) (ev_var (i := 0) rfl) ev_c hf5 (by show (4 : Nat) < 100000; decide) fun v6 H6 s6 e6 => ?_)
      subst e6
      dsimp only
      rw [fput3]
      have k6 : Kp f H (upd H6 f (.dK (fd4 l at0 (le / m) (tu + 1)))) := k2.trans ((Kp.of_same ((s4.trans s5).trans s6)).trans (.upd (s6 _ _ hf5)))
      refine s_ret (ev_var (i := 3) rfl) fun u H7 s7 e7 => ?_
      subst e7
      exact q _ H7 (Int.emod_nonneg _ (by omega)) (Int.emod_lt_of_pos _ hm) (k6.trans (.of_same s7)) (FeedAt.sm ⟨at0, le / m, tu + 1, xs, upd_same, k6.keep _ _ hl nlf, h1, Int.ediv_nonneg h2 (by omega), by omega, by omega⟩ s7)
    · dsimp only [tNext]
      have hf4 := s4 _ _ hf2
      refine q_asg (P := fun u _ => u = .int at0) (ev_dget (ev_var (i := 0) rfl) ev_c hf4 fget2) fun v5 H5 s5 e5 => ?_
      subst e5
      have hf5 := s5 _ _ hf4
      refine seqi (s_dput (P := fun u _ => u = .int (at0 + 1)) kp_ev (ev_I0 (g := fun i j => .int (i + j)) (ev_var (i := 4) rfl) ev_c) (ev_var (i := 0) rfl) ev_c hf5 (by show (4 : Nat) < 100000; decide) fun v6 H6 s6 e6 => ?_)
      subst e6
      dsimp only
      rw [fput2]
      have k6 : Kp f H (upd H6 f (.dK (fd4 l (at0 + 1) le (tu + 1)))) := k2.trans ((Kp.of_same ((s4.trans s5).trans s6)).trans (.upd (s6 _ _ hf5)))
      have hf6 : upd H6 f (.dK (fd4 l (at0 + 1) le (tu + 1))) f = some (.dK (fd4 l (at0 + 1) le (tu + 1))) := upd_same
      have hl6 := k6.keep _ _ hl nlf
      generalize upd H6 f (.dK (fd4 l (at0 + 1) le (tu + 1))) = H7 at *
      refine q_asg (P := fun u _ => u = .int 0) ev_c fun v8 H8 s8 e8 => ?_
      subst e8
      have hf8 := s8 _ _ hf6
      have cells : ∀ {H9 : Hp} {σ : St}, Same H7 H9 → σ[0]? = some (some (.ref f)) → EvP (tDGet (tVar 0) (tC (.str "cells"))) σ H9 (fun v H2 => LF K H2 v (ik xs)) := fun s9 h0 => (ev_dget (ev_var h0) ev_c (s9 _ _ hf6) fget1).imp fun v H2 s2 e => ⟨l, xs.map V.int, e, sqL_of (s2 _ _ (s9 _ _ hl6)), FzA.of_ints xs⟩
      refine q_ifSet (R := fun z _ => ∃ c : Int, z = .int c) (.int 0) (et_neN (cells s8 rfl)) (fun hb H9 s9 => ?_) rfl (fun _ _ => ⟨0, rfl⟩) fun z9 H9 s9 ⟨cell, ez⟩ => ?_
      · have s9 := s8.trans s9
        have hx : 0 < (ik xs).length := by
          cases hxs : ik xs with
          | nil => rw [hxs] at hb; cases hb
          | cons => simp
        have hi : (at0 % ((ik xs).length : Int)).toNat < (ik xs).length := by
          have h1 := Int.emod_nonneg at0 (b := ((ik xs).length : Int)) (by omega)
          have h2 := Int.emod_lt_of_pos at0 (b := ((ik xs).length : Int)) (by omega)
          omega
        obtain ⟨cl, hcl⟩ : ∃ cl : Int, (ik xs)[(at0 % ((ik xs).length : Int)).toNat]? = some (.num cl) := by
          unfold ik at hi ⊢
          rw [List.length_map] at hi ⊢
          rw [List.getElem?_map, List.getElem?_eq_getElem hi]
          exact ⟨_, rfl⟩
        have hcl' : L2.atI (ik xs) (at0 % ((ik xs).length : Int)) = some (.num cl) := by
          have := atI_of hcl
          rw [Int.toNat_of_nonneg (Int.emod_nonneg _ (by omega))] at this
          exact this
        exact (ev_of_int (ef_ixL (cells s9 rfl) (ev_I (g := fun i j => .int (i % j)) (ev_var (i := 4) rfl) (ev_lenL (cells s9 rfl)) (by omega)) hcl')).imp fun u H10 _ e => ⟨cl, e⟩
      · subst ez
        have s9 := s8.trans s9
        have hf9 := s9 _ _ hf6
        have hl9 := s9 _ _ hl6
        have t1 : EvT (tTest (tOp (rI0 fun i j => .bl (decide (j ≤ i))) (tVar 5) (tOp (rI CPow fun i j => .int (i ^ j.toNat)) (tC (.int 10)) (tC (.int 18))))) [some (.ref f), some (.int m), some (.int (tu + 1)), none, some (.int at0), some (.int cell), none] H9 (decide ((10 : Int) ^ (18 : Int).toNat ≤ cell)) := et_test (ev_I0 (g := fun i j => .bl (decide (j ≤ i))) (ev_var (i := 5) rfl) (ev_I (C := CPow) (g := fun i j => .int (i ^ j.toNat)) ev_c ev_c ⟨by decide, by decide, by decide⟩))
        have t2 : EvT (tTest (tOp (rI0 fun i j => .bl (decide (i < j))) (tVar 4) (tCB (rLenK K) (tCons (tDGet (tVar 0) (tC (.str "cells"))) tNil)))) [some (.ref f), some (.int m), some (.int (tu + 1)), none, some (.int at0), some (.int cell), none] H9 (decide (at0 < ((ik xs).length : Int))) := et_test (ev_I0 (g := fun i j => .bl (decide (i < j))) (ev_var (i := 4) rfl) (ev_lenL (cells s9 rfl)))
        refine seqi (s_if (et_and t1 fun _ => t2) (fun hb H10 s10 => ?_) (fun hb H10 s10 => ?_))
        · have hcell : (0 : Int) ≤ cell := by
            have h := (Bool.and_eq_true _ _ ▸ hb).1
            have h := of_decide_eq_true h
            have : (0 : Int) ≤ (10 : Int) ^ (18 : Int).toNat := by decide
            omega
          refine seqi (s_dput (P := fun u _ => u = .int (cell / m)) kp_ev (ev_I (C := CDiv) (g := fun i j => .int (i / j)) (ev_var (i := 5) rfl) (ev_var (i := 1) rfl) ⟨hm, by omega⟩) (ev_var (i := 0) rfl) ev_c (s10 _ _ hf9) (by show (4 : Nat) < 100000; decide) fun v11 H11 s11 e11 => ?_)
          subst e11
          dsimp only
          rw [fput3]
          have k11 : Kp f H (upd H11 f (.dK (fd4 l (at0 + 1) (cell / m) (tu + 1)))) := k6.trans ((Kp.of_same ((s9.trans s10).trans s11)).trans (.upd (s11 _ _ (s10 _ _ hf9))))
          refine s_ret (ev_I (g := fun i j => .int (i % j)) (ev_var (i := 5) rfl) (ev_var (i := 1) rfl) hm) fun u H12 s12 e12 => ?_
          subst e12
          exact q _ H12 (Int.emod_nonneg _ (by omega)) (Int.emod_lt_of_pos _ hm) (k11.trans (.of_same s12)) (FeedAt.sm ⟨at0 + 1, cell / m, tu + 1, xs, upd_same, k11.keep _ _ hl nlf, by omega, Int.ediv_nonneg hcell (by omega), by omega, by omega⟩ s12)
        · dsimp only [tNext]
          have c1 : ∀ i : Int, 0 ≤ i % 2147483629 ∧ i % 2147483629 < 2147483629 := fun i => ⟨Int.emod_nonneg _ (by decide), Int.emod_lt_of_pos _ (by decide)⟩
          have hc := c1 cell
          refine q_asg (P := fun u _ => ∃ z : Int, u = .int z ∧ 0 ≤ z ∧ z < 2147483647) ((ev_I (g := fun i j => .int (i % j)) (ev_I (C := CPow) (g := fun i j => .int (i ^ j.toNat)) (a := cell % 2147483629 + 7919 * (tu + 1) + 1) (b := 5) (ev_I0 (g := fun i j => .int (i + j)) (ev_I0 (g := fun i j => .int (i + j)) (ev_I (g := fun i j => .int (i % j)) (ev_var (i := 5) rfl) ev_c (by decide)) (ev_I (C := CMul) (g := fun i j => .int (i * j)) ev_c (ev_var (i := 2) rfl) (.inl ⟨by decide, by decide⟩))) ev_c) ev_c (pow_lt (by omega) (by omega))) ev_c (by decide)).imp fun u H11 _ e => ⟨_, e, Int.emod_nonneg _ (by decide), Int.emod_lt_of_pos _ (by decide)⟩) fun v11 H11 s11 ⟨z, e11, z1, z2⟩ => ?_
          subst e11
          refine q_asg (P := fun u _ => ∃ z : Int, u = .int z ∧ 0 ≤ z) ((ev_I (g := fun i j => .int (i % j)) (ev_I (C := CPow) (g := fun i j => .int (i ^ j.toNat)) (a := z + 104729 * (tu + 1)) (b := 5) (ev_I0 (g := fun i j => .int (i + j)) (ev_var (i := 6) rfl) (ev_I (C := CMul) (g := fun i j => .int (i * j)) ev_c (ev_var (i := 2) rfl) (.inl ⟨by decide, by decide⟩))) ev_c (pow_lt (by omega) (by omega))) ev_c (by decide)).imp fun u H12 _ e => ⟨_, e, Int.emod_nonneg _ (by decide)⟩) fun v12 H12 s12 ⟨z', e12, z3⟩ => ?_
          subst e12
          refine s_ret (ev_I (g := fun i j => .int (i % j)) (ev_I (C := CDiv) (g := fun i j => .int (i / j)) (ev_var (i := 6) rfl) ev_c ⟨by decide, by decide⟩) (ev_var (i := 1) rfl) hm) fun u H13 s13 e13 => ?_
          subst e13
          have sall := (((s9.trans s10).trans s11).trans s12).trans s13
          exact q _ H13 (Int.emod_nonneg _ (by omega)) (Int.emod_lt_of_pos _ hm) (k6.trans (.of_same sall)) (FeedAt.sm ⟨at0 + 1, le, tu + 1, xs, hf6, hl6, by omega, h2, by omega, by omega⟩ sall)
end
end K34
namespace K34
open PySem PySem.Spec L2

section
variable {P : Program} {w : World} {K : PySem.W.Frag} {mg : Str → Option Value} {base : Heap} {CH CW aK aA aG : Addr} {H H' : Hp} {σ : St} {ta tb te : TE} {x y v : V} {f l : Addr} {N : Nat} {m : Int}
/-- a draw from the feed at f -/
theorem r_draw {Q : VK} {E : XK} (ha : EvV ta σ H (.ref f)) (hb : EvV tb σ H (.int m)) (fd : FeedAt H f l N) (h0 : 0 < m) (h1 : m < 2 ^ 29) (hN : N < 2 ^ 40) (k : ∀ r H', 0 ≤ r → r < m → Kp f H H' → FeedAt H' f l (N + 1) → Q (.int r) H') : tCall spDraw [] E (tCons ta (tCons tb tNil)) σ H Q :=
  ea_two ha hb H (.refl _) _ fun vs H1 s1 e => by
    subst e
    exact ⟨f, l, N, m, rfl, fd.sm s1, h0, h1, hN, fun r H' r0 r1 kp fd' => k r H' r0 r1 ((Kp.of_same s1).trans kp) fd'⟩
theorem sqL_kp {a : Addr} {xs : List V} (fd : FeedAt H f l N) (k : Kp f H H') (h : SqL K H a xs) : SqL K H' a xs := by
  obtain ⟨a1, a2, a3, ys, hf, _⟩ := fd
  rcases h with h | h
  · rcases h with h | ⟨o, h⟩
    · exact .inl (.inl (k.keep _ _ h (ne_of h hf (fun z => by cases z))))
    · exact .inl (.inr ⟨o, k.keep _ _ h (ne_of h hf (fun z => by cases z))⟩)
  · exact .inr h
theorem LF.kp {ks : List NestedKey} (h : LF K H v ks) (fd : FeedAt H f l N) (k : Kp f H H') : LF K H' v ks := let ⟨a, xs, e, q, g⟩ := h; ⟨a, xs, e, sqL_kp fd k q, g.tk (fd.tk k)⟩
theorem FeedAt.nl {b : Addr} {xs : List V} (fd : FeedAt H f l N) (h : H b = some (.lst xs)) : b ≠ f := let ⟨_, _, _, _, hf, _⟩ := fd; ne_of h hf (fun z => by cases z)
def spHome : Sp := fun vs H Q _ => ∃ f l N, vs = [.ref f] ∧ FeedAt H f l N ∧ N + 20 < 2 ^ 40 ∧ ∀ v H' h, Kp f H H' → FeedAt H' f l (N + 8) → Fz H' v (.tup (ik h)) → Q v H'
theorem sc_L_home : FnScope ["_law_feed_here", "_law_k"] ["_law_feed_here"] (defScope s_L_home) := ⟨rfl, rfl, rfl, by decide +kernel, rfl, by decide +kernel, by decide +kernel⟩
theorem ok_home (T : Txt K mg CH CW aK aA aG) (D : Dat K mg "_law_home" "_law_home" s_L_home ["_law_feed_here"]) (G_L_draw : OK P w K mg base 1 "_law_draw" ["_law_feed_here", "_law_many"] spDraw) : OK P w K mg base 3 "_law_home" ["_law_feed_here"] spHome := by
  refine ok_mk D sc_L_home (fun vs H Q E h => ?_) (fun f0 cdv A outer s H vs Q E hr h => ?_)
  · obtain ⟨f, l, N, rfl, _⟩ := h
    rfl
  · obtain ⟨f, l, N, rfl, fd, hN, q⟩ := h
    refine ⟨_, (pss_one (ps_ret (pe_ifExp (pt_cmpR op_gt (px_call G_L_draw (hr.mono (by decide)) (by rfl) (pa_cons (pv 0) (pa_cons pe_int pa_nil))) pe_int (nomark _)) (pe_callTy call_tuple_of (by rfl) T.tuple b_tuple (pa_cons (pe_lc (own := [("_law_k", 1)]) rfl sc_L_home.nd (pi_range1 (by rfl) T.range (pa_cons pe_int pa_nil)) (blkOk_by (own := [("_law_k", 1)]) (N := ["_law_feed_here", "_law_k"]) (sc := defScope s_L_home) (by decide +kernel)) (fun _ _ _ _ _ => (pg_name (i := 1) sc_L_home.nd rfl (Or.inl rfl))) (fun _ _ _ _ _ => (pts_one (pt_cmpR op_gt (px_call G_L_draw (hr.mono (by decide)) (by rfl) (pa_cons (pv 0) (pa_cons pe_int pa_nil))) pe_int (nomark _)))) (fun _ _ _ _ _ => (pv 1))) pa_nil)) (pe_tup pa_nil)))), ?_⟩
    refine r_draw (ev_var (i := 0) rfl) ev_c fd (by decide) (by decide) (by omega) fun r1 H1 _ _ k1 fd1 => ?_
    refine ⟨r1, 0, rfl, rfl, _, rfl, ?_⟩
    by_cases h1 : (0 : Int) < r1
    · rw [decide_eq_true h1]
      refine ⟨7, rfl, by decide, by decide, fun L hL => ?_⟩
      have nLl : L ≠ l := fun z => fd1.ne.2 (z ▸ hL)
      have nLf : L ≠ f := fun z => fd1.ne.1 (z ▸ hL)
      refine lc_range (lo := 0) (n := 7) (fun i H' => Kp f H1 H' ∧ FeedAt H' f l (N + 1 + i) ∧ ∃ ks : List Int, H' L = some (.lst (ks.map V.int)) ∧ ks.length ≤ i) ⟨Kp.of_same (Same.new hL), fd1.sm (Same.new hL), [], upd_same, Nat.le_refl _⟩ (fun i H2 hi ⟨k2, fd2, ks, hks, lks⟩ => ?_) (fun H2 ⟨k2, fd2, ks, hks, lks⟩ => ?_)
      · refine ⟨rfl, ?_⟩
        refine r_draw (σ := [some (.ref f), some (.int (0 + (i : Int)))]) (ev_var (i := 0) rfl) ev_c fd2 (by decide) (by decide) (by omega) fun r3 H3 _ _ k3 fd3 => ?_
        refine ⟨r3, 0, rfl, rfl, _, rfl, ?_⟩
        have hL3 := k3.keep _ _ hks nLf
        by_cases h3 : (0 : Int) < r3
        · rw [decide_eq_true h3]
          refine ⟨_, rfl, _, hL3, ?_, (k2.trans k3).own hL, ?_, ks ++ [0 + (i : Int)], by rw [upd_same, List.map_append] <;> rfl, by simp; omega⟩
          · rw [List.length_map]
            exact Nat.lt_of_le_of_lt lks (Nat.lt_of_lt_of_le hi (by decide))
          · rw [← Nat.add_assoc]
            exact fd3.oth nLf nLl
        · rw [decide_eq_false h3]
          exact ⟨k2.trans k3, by rw [← Nat.add_assoc]; exact fd3, ks, hL3, by omega⟩
      · refine ⟨L, _, rfl, .inl ⟨sqL_of hks, fun p hp => ?_⟩⟩
        refine q _ _ ks ((k1.trans k2).trans (.of_same (Same.new hp))) ?_ (.tup upd_same (FzA.of_ints ks))
        exact (fd2.sm (Same.new hp)).mono (by omega)
    · rw [decide_eq_false h1]
      refine ⟨by decide, fun p hp => ?_⟩
      exact q _ _ [] (k1.trans (.of_same (Same.new hp))) ((fd1.sm (Same.new hp)).mono (by omega)) (.tup upd_same .nil)
end
end K34
namespace K34
open PySem PySem.Spec L2

section
variable {P : Program} {w : World} {K : PySem.W.Frag} {mg : Str → Option Value} {base : Heap} {CH CW aK aA aG : Addr} {H H' : Hp} {σ : St} {ta tb te : TE} {x y v : V} {f l : Addr} {N : Nat} {m : Int}
/-- what a drawn page is -/
def PgOk (pg : Page) : Prop := ∀ d a b, pg = .join d a b → a ≠ b
theorem other_ix {at0 d n : Int} (h0 : 0 ≤ at0) (h1 : at0 < n) (h2 : 0 ≤ d) (h3 : d < n - 1) : 0 ≤ (at0 + 1 + d) % n ∧ (at0 + 1 + d) % n < n ∧ (at0 + 1 + d) % n ≠ at0 := by
  have a := Int.emod_nonneg (at0 + 1 + d) (b := n) (by omega)
  have b := Int.emod_lt_of_pos (at0 + 1 + d) (b := n) (by omega)
  refine ⟨a, b, ?_⟩
  have e := Int.mul_ediv_add_emod (at0 + 1 + d) n
  have q0 : 0 ≤ (at0 + 1 + d) / n := Int.ediv_nonneg (by omega) (by omega)
  have q1 : (at0 + 1 + d) / n < 2 := Int.ediv_lt_of_lt_mul (by omega) (by omega)
  generalize (at0 + 1 + d) / n = q at *
  have : q = 0 ∨ q = 1 := by omega
  rcases this with h | h <;> subst h
  · omega
  · omega
def spPage (K : PySem.W.Frag) : Sp := fun vs H Q _ => ∃ f l N v names day, vs = [.ref f, v, .int day] ∧ FeedAt H f l N ∧ N + 50 < 2 ^ 40 ∧ LF K H v (txs names) ∧ names.Nodup ∧ 2 ≤ names.length ∧ names.length ≤ 100 ∧
  ∀ v' H' pg, Kp f H H' → FeedAt H' f l (N + 20) → Fz H' v' (Page.key pg) → pg.day = day → PgOk pg → Q v' H'
theorem sc_L_page : FnScope ["_law_feed_here", "_law_names_here", "_law_day", "_law_at", "_law_a", "_law_b", "_law_way", "_law_home_here", "_law_long"] ["_law_feed_here", "_law_names_here", "_law_day"] (defScope s_L_page) := ⟨rfl, rfl, rfl, by decide +kernel, rfl, by decide +kernel, by decide +kernel⟩
theorem ok_page (T : Txt K mg CH CW aK aA aG) (D : Dat K mg "_law_page" "_law_page" s_L_page ["_law_feed_here", "_law_names_here", "_law_day"]) (G_L_draw : OK P w K mg base 1 "_law_draw" ["_law_feed_here", "_law_many"] spDraw) (G_L_home : OK P w K mg base 3 "_law_home" ["_law_feed_here"] spHome) : OK P w K mg base 5 "_law_page" ["_law_feed_here", "_law_names_here", "_law_day"] (spPage K) := by
  refine ok_mk D sc_L_page (fun vs H Q E h => ?_) (fun f0 cdv A outer s H vs Q E hr h => ?_)
  · obtain ⟨f, l, N, v, names, day, rfl, _⟩ := h
    rfl
  · obtain ⟨f, l, N, v, names, day, rfl, fd, hN, lf, nd, n2, n9, q⟩ := h
    refine ⟨_, (pss_cons (ps_set (i := 3) sc_L_page.nd rfl (Or.inl rfl) (px_call G_L_draw (hr.mono (by decide)) (by rfl) (pa_cons (pv 0) (pa_cons (pe_callB call_lenK (by rfl) T.len b_len (pa_cons (pv 1) pa_nil)) pa_nil)))) (pss_cons (ps_par (i := 4) (j := 5) rfl sc_L_page.nd rfl rfl (by decide) rfl rfl (pa_cons (pe_ix ix_list (pv 1) (pv 3) (fun _ _ => rfl)) (pa_cons (pe_ix ix_list (pv 1) (pe_op op_mod (pe_op op_add (pe_op op_add (pv 3) pe_int) (px_call G_L_draw (hr.mono (by decide)) (by rfl) (pa_cons (pv 0) (pa_cons (pe_op op_sub (pe_callB call_lenK (by rfl) T.len b_len (pa_cons (pv 1) pa_nil)) pe_int) pa_nil)))) (pe_callB call_lenK (by rfl) T.len b_len (pa_cons (pv 1) pa_nil))) (fun _ _ => rfl)) pa_nil)) rfl) (pss_cons (ps_set (i := 6) sc_L_page.nd rfl (Or.inl rfl) (px_call G_L_draw (hr.mono (by decide)) (by rfl) (pa_cons (pv 0) (pa_cons pe_int pa_nil)))) (pss_cons (ps_if (pt_cmpR op_lt (pv 6) pe_int (nomark _)) (pss_cons (ps_par (i := 7) (j := 8) rfl sc_L_page.nd rfl rfl (by decide) rfl rfl (pa_cons (px_call G_L_home (hr.mono (by decide)) (by rfl) (pa_cons (pv 0) pa_nil)) (pa_cons (pe_op op_add pe_int (px_call G_L_draw (hr.mono (by decide)) (by rfl) (pa_cons (pv 0) (pa_cons (pe_ix ix_list (pe_lst (pa_cons pe_int (pa_cons pe_int pa_nil))) (px_call G_L_draw (hr.mono (by decide)) (by rfl) (pa_cons (pv 0) (pa_cons pe_int pa_nil))) (fun _ _ => rfl)) pa_nil)))) pa_nil)) rfl) (pss_cons (ps_if (pt_cmpR op_eq (pv 6) pe_int (nomark _)) (pss_one (ps_ret (pe_tup (pa_cons pe_str (pa_cons (pv 2) (pa_cons (pv 4) (pa_cons (pv 5) (pa_cons (pv 7) pa_nil)))))))) pss_nil) (pss_one (ps_ret (pe_tup (pa_cons (pe_ix ix_list (pe_lst (pa_cons pe_str (pa_cons pe_str (pa_cons pe_str (pa_cons pe_str (pa_cons pe_str (pa_cons pe_str pa_nil))))))) (pv 6) (fun _ _ => rfl)) (pa_cons (pv 2) (pa_cons (pv 4) (pa_cons (pe_ix ix_list (pe_lst (pa_cons (pv 7) (pa_cons (pv 4) (pa_cons (pv 5) (pa_cons (pv 7) (pa_cons (pv 8) (pa_cons (pv 5) pa_nil))))))) (pv 6) (fun _ _ => rfl)) pa_nil))))))))) pss_nil) (pss_one (ps_ret (pe_tup (pa_cons (pe_ix ix_list (pe_lst (pa_cons pe_str (pa_cons pe_str pa_nil))) (pe_callTy call_int1 (by rfl) T.int b_int (pa_cons (pe_cmpR op_gt (pv 6) pe_int (nomark _)) pa_nil)) (fun _ _ => rfl)) (pa_cons (pv 2) (pa_cons (pv 4) (pa_cons (pv 5) pa_nil))))))))))), ?_⟩
    have tl : (txs names).length = names.length := List.length_map _
    have lenE : ∀ {H1 : Hp} {σ : St} {i : Nat}, LF K H1 v (txs names) → σ[i]? = some (some v) → EvV (tCB (rLenK K) (tCons (tVar i) tNil)) σ H1 (.int (names.length : Int)) := fun lf h => by
      have := ev_lenL (K := K) (ep_var (P := fun v H => LF K H v (txs names)) h kp_lf lf)
      rw [tl] at this
      exact this
    have nm : ∀ i : Int, 0 ≤ i → i < names.length → ∃ z, names[i.toNat]? = some z ∧ L2.atI (txs names) i = some (.text z) := fun i h0 h1 => by
      have hi : i.toNat < names.length := by omega
      refine ⟨names[i.toNat], List.getElem?_eq_getElem hi, ?_⟩
      have : (txs names)[i.toNat]? = some (.text names[i.toNat]) := by
        unfold txs
        rw [List.getElem?_map, List.getElem?_eq_getElem hi] <;> rfl
      have := atI_of this
      rw [Int.toNat_of_nonneg h0] at this
      exact this
    -- at
    refine seqi ?_
    refine r_draw (m := (names.length : Int)) (ev_var (i := 0) rfl) (lenE lf rfl) fd (by omega) (by omega) (by omega) fun r1 H1 a0 a1 k1 fd1 => ?_
    have lf1 := lf.kp fd k1
    dsimp only [gName]
    obtain ⟨za, hza, eza⟩ := nm r1 a0 a1
    refine seqi ?_
    have ga : EvF (tOp (rIxL K) (tVar 1) (tVar 3)) [some (.ref f), some v, some (.int day), some (.int r1), none, none, none, none, none] H1 (.text za) := ef_ixL (ep_var (P := fun v H => LF K H v (txs names)) rfl kp_lf lf1) (ev_var rfl) eza
    refine ga H1 (.refl _) _ fun va H2 s2 fa => ?_
    obtain rfl := fa.str_inv
    have lf2 := lf1.sm s2
    have fd2 := fd1.sm s2
    have k2 := k1.trans (.of_same s2)
    refine ⟨_, rfl, _, rfl, ?_⟩
    refine ⟨r1, 1, rfl, rfl, ?_⟩
    refine r_draw (σ := [some (.ref f), some v, some (.int day), some (.int r1), none, none, none, none, none]) (m := (names.length : Int) - 1) (ev_var (i := 0) rfl) (ev_I0 (g := fun i j => .int (i - j)) (lenE lf2 rfl) (ev_c (v := .int 1))) fd2 (by omega) (by omega) (by omega) fun r3 H3 b0 b1 k3 fd3 => ?_
    have lf3 := lf2.kp fd2 k3
    refine ⟨r1 + 1, r3, rfl, rfl, ?_⟩
    refine lenE (σ := [some (.ref f), some v, some (.int day), some (.int r1), none, none, none, none, none]) (i := 1) lf3 rfl H3 (.refl _) _ fun u4 H4 s4 e4 => ?_
    subst e4
    have lf4 := lf3.sm s4
    have fd4' := fd3.sm s4
    have k4 := (k2.trans k3).trans (.of_same s4)
    refine ⟨r1 + 1 + r3, (names.length : Int), rfl, rfl, by show (0 : Int) < _; omega, ?_⟩
    obtain ⟨o0, o1, o2⟩ := other_ix a0 a1 b0 b1
    obtain ⟨zb, hzb, ezb⟩ := nm _ o0 o1
    have hab : za ≠ zb := fun z => by
      rw [z] at hza
      have := (List.getElem?_inj (by omega) nd).mp (hza.trans hzb.symm)
      omega
    obtain ⟨b5, xs5, rfl, hb5, fb5⟩ := id lf4
    obtain ⟨vb, hvb, fvb⟩ := fb5.atI ezb
    obtain rfl := fvb.str_inv
    refine ⟨b5, xs5, _, _, rfl, rfl, hb5, hvb, ?_⟩
    refine ⟨_, _, rfl, ?_⟩
    dsimp only
    -- way
    refine seqi ?_
    refine r_draw (m := 16) (σ := [some (.ref f), some (.ref b5), some (.int day), some (.int r1), some (.str za), some (.str zb), none, none, none]) (ev_var (i := 0) rfl) ev_c fd4' (by decide) (by decide) (by omega) fun r6 H6 c0 c1 k6 fd6 => ?_
    dsimp only [gName]
    have k6 := k4.trans k6
    refine seqi (s_if (et_test (ev_I0 (g := fun i j => .bl (decide (i < j))) (ev_var (i := 6) rfl) (ev_c (v := .int 6)))) (fun hb H7 s7 => ?_) (fun hb H7 s7 => ?_))
    · have hb : r6 < 6 := of_decide_eq_true hb
      have fd7 := fd6.sm s7
      have k7 := k6.trans (.of_same s7)
      refine seqi ?_
      refine ⟨_, rfl, f, l, _, rfl, fd7, by omega, fun v8 H8 h k8 fd8 f8 => ?_⟩
      have k8 := k7.trans k8
      refine ⟨_, rfl, by decide, fun p hp => ?_⟩
      have fd9 := fd8.sm (Same.new (o := .lst [.int 4, .int 60]) hp)
      have k9 := k8.trans (.of_same (Same.new (o := .lst [.int 4, .int 60]) hp))
      have npf : p ≠ f := fun z => fd8.ne.1 (z ▸ hp)
      have f9 := f8.sm (Same.new (o := .lst [.int 4, .int 60]) hp)
      refine r_draw (m := 2) (σ := [some (.ref f), some (.ref b5), some (.int day), some (.int r1), some (.str za), some (.str zb), some (.int r6), none, none]) (ev_var (i := 0) rfl) ev_c fd9 (by decide) (by decide) (by omega) fun r10 H10 d0 d1 k10 fd10 => ?_
      have hp10 := k10.keep _ _ (upd_same (H := H8)) npf
      have f10 := f9.tk (fd9.tk k10)
      have k10 := k9.trans k10
      obtain ⟨m2, hm2, hm3, hm4⟩ : ∃ m2 : Int, L2.atI [V.int 4, V.int 60] r10 = some (.int m2) ∧ 0 < m2 ∧ m2 < 100 := by
        have : r10 = 0 ∨ r10 = 1 := by omega
        rcases this with h | h <;> subst h
        · exact ⟨4, rfl, by decide, by decide⟩
        · exact ⟨60, rfl, by decide, by decide⟩
      refine ⟨p, _, r10, _, rfl, rfl, sqL_of hp10, hm2, ?_⟩
      refine ⟨f, l, _, m2, rfl, fd10, hm3, by omega, by omega, fun r11 H11 g0 g1 k11 fd11 => ?_⟩
      have f11 := f10.tk (fd10.tk k11)
      have k11 := k10.trans k11
      refine ⟨1, r11, rfl, rfl, v8, _, rfl, ?_⟩
      dsimp only
      have q11 : ∀ {v' : V} {H' : Hp} {pg : Page}, Same H11 H' → Fz H' v' pg.key → pg.day = day → PgOk pg → Q v' H' := fun s f e o => q _ _ _ (k11.trans (.of_same s)) ((fd11.sm s).mono (by omega)) f e o
      have vA : ∀ {Hx : Hp}, EvF (tVar 4) [some (.ref f), some (.ref b5), some (.int day), some (.int r1), some (.str za), some (.str zb), some (.int r6), some v8, some (.int (1 + r11))] Hx (.text za) := ef_of_str (ev_var rfl)
      have vB : ∀ {Hx : Hp}, EvF (tVar 5) [some (.ref f), some (.ref b5), some (.int day), some (.int r1), some (.str za), some (.str zb), some (.int r6), some v8, some (.int (1 + r11))] Hx (.text zb) := ef_of_str (ev_var rfl)
      have vD : ∀ {Hx : Hp}, EvF (tVar 2) [some (.ref f), some (.ref b5), some (.int day), some (.int r1), some (.str za), some (.str zb), some (.int r6), some v8, some (.int (1 + r11))] Hx (.num day) := ef_of_int (ev_var rfl)
      have vL : ∀ {Hx : Hp}, EvF (tVar 8) [some (.ref f), some (.ref b5), some (.int day), some (.int r1), some (.str za), some (.str zb), some (.int r6), some v8, some (.int (1 + r11))] Hx (.num (1 + r11)) := ef_of_int (ev_var rfl)
      have vH : ∀ {Hx : Hp}, Same H11 Hx → EvF (tVar 7) [some (.ref f), some (.ref b5), some (.int day), some (.int r1), some (.str za), some (.str zb), some (.int r6), some v8, some (.int (1 + r11))] Hx (.tup (ik h)) := fun s => ef_var rfl (f11.sm s)
      refine seqi (s_if (et_test (ev_eqI (a := r6) (b := 1) (ev_var (i := 6) rfl) ev_c)) (fun hb H12 s12 => ?_) (fun hb H12 s12 => ?_))
      · exact s_ret (P := fun v H => Fz H v (Page.key (.part day za zb h))) (ef_tup (ks := [.text "part", .num day, .text za, .text zb, .tup (ik h)]) (ea_cons ef_str (ea_cons vD (ea_cons vA (ea_cons vB (ea_cons (vH s12) ea_nil)))))) fun v13 H13 s13 f13 => q11 (s12.trans s13) f13 rfl (fun _ _ _ e => by cases e)
      · dsimp only [tNext]
        have hb1 : r6 ≠ 1 := of_decide_eq_false hb
        have kl : EvP (tLst (tCons (tC (.str "house")) (tCons (tC (.str "")) (tCons (tC (.str "join")) (tCons (tC (.str "home")) (tCons (tC (.str "mourn")) (tCons (tC (.str "ahead")) tNil))))))) [some (.ref f), some (.ref b5), some (.int day), some (.int r1), some (.str za), some (.str zb), some (.int r6), some v8, some (.int (1 + r11))] H12 (fun v H2 => LF K H2 v [.text "house", .text "", .text "join", .text "home", .text "mourn", .text "ahead"]) := (el_lst (ea_cons ef_str (ea_cons ef_str (ea_cons ef_str (ea_cons ef_str (ea_cons ef_str (ea_cons ef_str ea_nil))))))).imp fun v H _ h => h.lf
        have vl : EvP (tLst (tCons (tVar 7) (tCons (tVar 4) (tCons (tVar 5) (tCons (tVar 7) (tCons (tVar 8) (tCons (tVar 5) tNil))))))) [some (.ref f), some (.ref b5), some (.int day), some (.int r1), some (.str za), some (.str zb), some (.int r6), some v8, some (.int (1 + r11))] H12 (fun v H2 => LF K H2 v [.tup (ik h), .text za, .text zb, .tup (ik h), .num (1 + r11), .text zb]) := (el_lst (ea_cons (vH s12) (ea_cons vA (ea_cons vB (ea_cons (vH s12) (ea_cons vL (ea_cons vB ea_nil))))))).imp fun v H _ h => h.lf
        have fin : ∀ (kd : Str) (xk : NestedKey) (pg : Page), L2.atI [NestedKey.text "house", .text "", .text "join", .text "home", .text "mourn", .text "ahead"] r6 = some (.text kd) → L2.atI [NestedKey.tup (ik h), .text za, .text zb, .tup (ik h), .num (1 + r11), .text zb] r6 = some xk → pg.key = .tup [.text kd, .num day, .text za, xk] → pg.day = day → PgOk pg →
            tRet (tTup (tCons (tOp (rIxL K) (tLst (tCons (tC (.str "house")) (tCons (tC (.str "")) (tCons (tC (.str "join")) (tCons (tC (.str "home")) (tCons (tC (.str "mourn")) (tCons (tC (.str "ahead")) tNil))))))) (tVar 6)) (tCons (tVar 2) (tCons (tVar 4) (tCons (tOp (rIxL K) (tLst (tCons (tVar 7) (tCons (tVar 4) (tCons (tVar 5) (tCons (tVar 7) (tCons (tVar 8) (tCons (tVar 5) tNil))))))) (tVar 6)) tNil))))) { nx := fun _ H' => Q .non H', rt := Q } [some (.ref f), some (.ref b5), some (.int day), some (.int r1), some (.str za), some (.str zb), some (.int r6), some v8, some (.int (1 + r11))] H12 := fun kd xk pg e1 e2 ek ed eo => by
          refine s_ret (P := fun v H => Fz H v pg.key) ?_ fun v13 H13 s13 f13 => q11 (s12.trans s13) f13 ed eo
          rw [ek]
          exact ef_tup (ks := [.text kd, .num day, .text za, xk]) (ea_cons (ef_ixL kl (ev_var (i := 6) rfl) e1) (ea_cons vD (ea_cons vA (ea_cons (ef_ixL vl (ev_var (i := 6) rfl) e2) ea_nil))))
        have : r6 = 0 ∨ r6 = 2 ∨ r6 = 3 ∨ r6 = 4 ∨ r6 = 5 := by omega
        rcases this with e | e | e | e | e <;> subst e
        · exact fin "house" (.tup (ik h)) (.house day za h) rfl rfl rfl rfl (fun _ _ _ e => by cases e)
        · exact fin "join" (.text zb) (.join day za zb) rfl rfl rfl rfl (fun _ _ _ e => by cases e; exact hab)
        · exact fin "home" (.tup (ik h)) (.home day za h) rfl rfl rfl rfl (fun _ _ _ e => by cases e)
        · exact fin "mourn" (.num (1 + r11)) (.mourn day za (1 + r11)) rfl rfl rfl rfl (fun _ _ _ e => by cases e)
        · exact fin "ahead" (.text zb) (.ahead day za zb) rfl rfl rfl rfl (fun _ _ _ e => by cases e)
    · dsimp only [tNext]
      have hb : ¬ r6 < 6 := of_decide_eq_false hb
      have fd7 := fd6.sm s7
      have k7 := k6.trans (.of_same s7)
      refine s_ret (P := fun v H => Fz H v (Page.key (.going (decide (8 < r6)) day za zb))) (ef_tup (ks := [.text (bS (decide (8 < r6))), .num day, .text za, .text zb]) (ea_cons ?_ (ea_cons (ef_of_int (ev_var (i := 2) rfl)) (ea_cons (ef_of_str (ev_var (i := 4) rfl)) (ea_cons (ef_of_str (ev_var (i := 5) rfl)) ea_nil))))) fun v8 H8 s8 f8 => q v8 H8 _ (k7.trans (.of_same s8)) ((fd7.sm s8).mono (by omega)) f8 rfl (fun _ _ _ e => by cases e)
      refine ef_ixL (ks := [.text "card", .text "visit"]) ((el_lst (ea_cons ef_str (ea_cons ef_str ea_nil))).imp fun v H _ h => h.lf) (i := if decide (8 < r6) then 1 else 0) (fun H9 s9 Q9 q9 => ⟨_, rfl, r6, 8, rfl, rfl, .inr ⟨decide (8 < r6), rfl, q9 _ H9 (.refl _) rfl⟩⟩) ?_
      · by_cases h8 : 8 < r6
        · simp [h8, L2.atI, ixN, bS]
        · simp [h8, L2.atI, ixN, bS]
end
end K34
namespace K34
open PySem PySem.Spec L2

section
variable {P : Program} {w : World} {K : PySem.W.Frag} {mg : Str → Option Value} {base : Heap} {CH CW aK aA aG : Addr} {H H' : Hp} {σ : St} {ta tb te : TE} {x y v : V} {f l : Addr} {N : Nat} {m : Int}
theorem app_len (a b : Str) : (a ++ b).length = a.length + b.length := by
  show (a.cps ++ b.cps).size = a.cps.size + b.cps.size
  rw [Array.size_append]
theorem join_len1 (sep : Str) (parts : List Str) : (Str.join sep parts).length ≤ (parts.map (·.length)).sum + parts.length * sep.length := by
  induction parts with
  | nil => exact Nat.zero_le _
  | cons a r ih =>
    cases r with
    | nil =>
      show a.length ≤ _
      simp
    | cons b r =>
      show (a ++ sep ++ Str.join sep (b :: r)).length ≤ _
      rw [app_len, app_len]
      rw [List.map_cons, List.sum_cons, List.length_cons, Nat.succ_mul]
      omega
theorem mid_inj {p s c d : Str} (h : p ++ c ++ s = p ++ d ++ s) : c = d := by
  have e : (p ++ c ++ s).cps.toList = (p ++ d ++ s).cps.toList := by rw [h]
  have e1 : ∀ x : Str, (p ++ x ++ s).cps.toList = p.cps.toList ++ x.cps.toList ++ s.cps.toList := fun x => by
    show ((p.cps ++ x.cps) ++ s.cps).toList = _
    simp
  rw [e1, e1] at e
  have e2 := List.append_cancel_right e
  have e3 := List.append_cancel_left e2
  have : c.cps = d.cps := Array.toList_inj.mp e3
  cases c
  cases d
  simp at this
  rw [this]
/-- some.pop(draw(len(some))) over and over -/
def spNames : Sp := fun vs H Q _ => ∃ f l N, vs = [.ref f] ∧ FeedAt H f l N ∧ N + 100 < 2 ^ 40 ∧ ∀ v H' L zs, v = .ref L → Kp f H H' → FeedAt H' f l (N + 40) → H L = none → H' L = some (.lst (List.map V.str zs)) → zs.Nodup → zs.length = 9 → Q v H'
def namesA : List Str := ["a", "ab", "abc", "b", "ba", "bab", "c", "ca", "zz"]
def namesB : List Str := ["card", "cards", "visit", "house", "home", "part", "join", "mourn", "ahead"]
theorem namesA_nd : namesA.Nodup ∧ namesA.length = 9 := by decide +kernel
theorem namesB_nd : namesB.Nodup ∧ namesB.length = 9 := by decide +kernel
def abc : Str := "abcdefghijklmnopqrstuvwxyz"
theorem abc_len : abc.length = 26 := by decide +kernel
theorem abc_at : ∀ i, i < 26 → abc.cps.toList[i]? = some (97 + i) := by decide +kernel
theorem abc_atI {i : Int} (h0 : 0 ≤ i) (h1 : i < 26) : L2.atI abc.cps.toList i = some (97 + i.toNat) := by
  have := atI_of (abc_at i.toNat (by omega))
  rw [Int.toNat_of_nonneg h0] at this
  exact this
theorem ev_ixS {z : Str} {i : Int} {c : Nat} (h1 : EvV ta σ H (.str z)) (h2 : EvV tb σ H (.int i)) (hz : z.length ≤ sizeLine) (h : L2.atI z.cps.toList i = some c) : EvV (tOp rIxS ta tb) σ H (.str ⟨#[c]⟩) := ev_op h1 h2 fun H2 Q q => ⟨z, i, c, rfl, rfl, hz, h, q⟩
theorem ev_addS {a b : Str} (h1 : EvV ta σ H (.str a)) (h2 : EvV tb σ H (.str b)) (hz : a.length + b.length ≤ 100000) : EvV (tOp (fun x y H Q => ∃ i j, x = .str i ∧ y = .str j ∧ i.length + j.length ≤ sizeLine ∧ Q (.str (i ++ j)) H) ta tb) σ H (.str (a ++ b)) := ev_op h1 h2 fun H2 Q q => ⟨a, b, rfl, rfl, Nat.le_trans hz (by decide), q⟩
theorem ev_slS {a : Str} {tl th : TO} {lo hi : Option Int} (h1 : EvV ta σ H (.str a)) (hl : EvO tl σ H lo) (hh : EvO th σ H hi) (hz : a.length ≤ 100000) : EvV (tSl rSlS ta tl th) σ H (.str (cutS a lo hi)) := fun H1 s Q q => h1 H1 s _ fun v H2 s2 e => hl H2 (s.trans s2) _ fun H3 s3 => hh H3 ((s.trans s2).trans s3) _ fun H4 s4 => ⟨a, e, Nat.le_trans hz (by decide), q _ H4 ((s2.trans s3).trans s4) rfl⟩
theorem q_ifMid {tt : TT} {tu tz : TS} {D : Ends} {bb : Bool} (Mid : St → Hp → Prop) (h : EvT tt σ H bb) (h1 : bb = true → ∀ H1, Same H H1 → ∀ nx : St → Hp → Prop, (∀ σ' H', Mid σ' H' → nx σ' H') → tu { D with nx := nx } σ H1) (h2 : bb = false → ∀ H1, Same H H1 → Mid σ H1) (k : ∀ σ' H', Mid σ' H' → tz D σ' H') :
    tSeq (tIfS tt tu tNext) tz D σ H := seqi (s_if h (fun hb H1 s1 => h1 hb H1 s1 _ k) (fun hb H1 s1 => k _ _ (h2 hb H1 s1)))
/-- nine names stand at S, which is new -/
def Nine (H0 H : Hp) (f l : Addr) (N : Nat) (S : Addr) : Prop := Kp f H0 H ∧ FeedAt H f l N ∧ H0 S = none ∧ ∃ zs : List Str, H S = some (.lst (zs.map V.str)) ∧ zs.Nodup ∧ zs.length = 9
def signAt (first : Int) (k : Nat) : Str := ⟨#[97 + ((first + 5 * (k : Int)) % 26).toNat]⟩
theorem sign_inj {first : Int} {j k : Nat} (hj : j < 9) (hk : k < 9) (h : signAt first j = signAt first k) : j = k := by
  unfold signAt at h
  simp at h
  have a := Int.emod_nonneg (first + 5 * (j : Int)) (b := 26) (by decide)
  have b := Int.emod_nonneg (first + 5 * (k : Int)) (b := 26) (by decide)
  omega
theorem words_nd (p q : Str) (first : Int) : ((List.range 9).map fun k => p ++ signAt first k ++ q).Nodup := by
  unfold List.Nodup
  rw [List.pairwise_map]
  refine List.Pairwise.imp_of_mem (R := (· ≠ ·)) ?_ List.nodup_range
  intro a b ha hb ne e
  rw [List.mem_range] at ha hb
  exact ne (sign_inj ha hb (mid_inj e))
theorem sc_L_names : FnScope ["_law_feed_here", "_law_way", "_law_some", "_law_letters", "_law_size", "_law_first", "_law_at", "_law_word", "_law_k", "_law_sign"] ["_law_feed_here"] (defScope s_L_names) := ⟨rfl, rfl, rfl, by decide +kernel, rfl, by decide +kernel, by decide +kernel⟩
theorem ok_names (T : Txt K mg CH CW aK aA aG) (D : Dat K mg "_law_names" "_law_names" s_L_names ["_law_feed_here"]) (G_L_draw : OK P w K mg base 1 "_law_draw" ["_law_feed_here", "_law_many"] spDraw) : OK P w K mg base 3 "_law_names" ["_law_feed_here"] spNames := by
  refine ok_mk D sc_L_names (fun vs H Q E h => ?_) (fun f0 cdv A outer s H vs Q E hr h => ?_)
  · obtain ⟨f, l, N, rfl, _⟩ := h
    rfl
  · obtain ⟨f, l, N, rfl, fd, hN, q⟩ := h
    refine ⟨_, (pss_cons (ps_set (i := 1) sc_L_names.nd rfl (Or.inl rfl) (px_call G_L_draw (hr.mono (by decide)) (by rfl) (pa_cons (pv 0) (pa_cons pe_int pa_nil)))) (pss_cons (ps_set (i := 2) sc_L_names.nd rfl (Or.inr rfl) (pe_lst (pa_cons pe_str (pa_cons pe_str (pa_cons pe_str (pa_cons pe_str (pa_cons pe_str (pa_cons pe_str (pa_cons pe_str (pa_cons pe_str (pa_cons pe_str pa_nil))))))))))) (pss_cons (ps_if (pt_cmpR op_eq (pv 1) pe_int (nomark _)) (pss_one (ps_set (i := 2) sc_L_names.nd rfl (Or.inr rfl) (pe_lst (pa_cons pe_str (pa_cons pe_str (pa_cons pe_str (pa_cons pe_str (pa_cons pe_str (pa_cons pe_str (pa_cons pe_str (pa_cons pe_str (pa_cons pe_str pa_nil)))))))))))) pss_nil) (pss_cons (ps_if (pt_cmpR op_eq (pv 1) pe_int (nomark _)) (pss_cons (ps_set (i := 3) sc_L_names.nd rfl (Or.inr rfl) pe_str) (pss_cons (ps_par (i := 4) (j := 5) rfl sc_L_names.nd rfl rfl (by decide) rfl rfl (pa_cons (pe_op op_add pe_int (px_call G_L_draw (hr.mono (by decide)) (by rfl) (pa_cons (pv 0) (pa_cons pe_int pa_nil)))) (pa_cons (px_call G_L_draw (hr.mono (by decide)) (by rfl) (pa_cons (pv 0) (pa_cons pe_int pa_nil))) pa_nil)) rfl) (pss_cons (ps_set (i := 6) sc_L_names.nd rfl (Or.inl rfl) (px_call G_L_draw (hr.mono (by decide)) (by rfl) (pa_cons (pv 0) (pa_cons (pv 4) pa_nil)))) (pss_cons (ps_set (i := 7) sc_L_names.nd rfl (Or.inl rfl) (pe_join pe_str (pe_lc (own := [("_law_k", 8)]) rfl sc_L_names.nd (pi_range1 (by rfl) T.range (pa_cons (pv 4) pa_nil)) (blkOk_by (own := [("_law_k", 8)]) (N := ["_law_feed_here", "_law_way", "_law_some", "_law_letters", "_law_size", "_law_first", "_law_at", "_law_word", "_law_k", "_law_sign"]) (sc := defScope s_L_names) (by decide +kernel)) (fun _ _ _ _ _ => (pg_name (i := 8) sc_L_names.nd rfl (Or.inl rfl))) (fun _ _ _ _ _ => pts_nil) (fun _ _ _ _ _ => (pe_ix ix_str (pv 3) (px_call G_L_draw (hr.mono (by decide)) (by rfl) (pa_cons (pv 0) (pa_cons pe_int pa_nil))) (fun _ _ => rfl)))))) (pss_cons (ps_set (i := 2) sc_L_names.nd rfl (Or.inr rfl) (pe_lst pa_nil)) (pss_one (ps_for PassesOwn.never rfl (pi_range1 (by rfl) T.range (pa_cons pe_int pa_nil)) (pg_name (i := 8) sc_L_names.nd rfl (Or.inl rfl)) (pss_cons (ps_set (i := 9) sc_L_names.nd rfl (Or.inl rfl) (pe_ix ix_str (pv 3) (pe_op op_mod (pe_op op_add (pv 5) (pe_op op_mul pe_int (pv 8))) pe_int) (fun _ _ => rfl))) (pss_one (ps_expr (pe_bm PySem.F.plainAttrs_list PySem.F.slot_list_append PySem.F.type_list_append mt_append (pv 2) (pa_cons (pe_op op_add_str (pe_op op_add_str (pe_slice sl_str (pv 7) po_none (po_some (pv 6))) (pv 9)) (pe_slice sl_str (pv 7) (po_some (pe_op op_add (pv 6) pe_int)) po_none)) pa_nil)))))))))))) pss_nil) (pss_one (ps_ret (pe_lc (own := [("_law_k", 8)]) rfl sc_L_names.nd (pi_range1 (by rfl) T.range (pa_cons pe_int pa_nil)) (blkOk_by (own := [("_law_k", 8)]) (N := ["_law_feed_here", "_law_way", "_law_some", "_law_letters", "_law_size", "_law_first", "_law_at", "_law_word", "_law_k", "_law_sign"]) (sc := defScope s_L_names) (by decide +kernel)) (fun _ _ _ _ _ => (pg_name (i := 8) sc_L_names.nd rfl (Or.inl rfl))) (fun _ _ _ _ _ => pts_nil) (fun _ _ _ _ _ => (show PE _ _ (tBM K "list" rPopAt _ _) from (pe_bm PySem.F.plainAttrs_list PySem.F.slot_list_pop PySem.F.type_list_pop mt_popAt (pv 2) (pa_cons (px_call G_L_draw (hr.mono (by decide)) (by rfl) (pa_cons (pv 0) (pa_cons (pe_callB (r := rLenK K) call_lenK (by rfl) T.len b_len (pa_cons (pv 2) pa_nil)) pa_nil))) pa_nil))))))))))), ?_⟩
    refine seqi ?_
    refine r_draw (m := 3) (ev_var (i := 0) rfl) ev_c fd (by decide) (by decide) (by omega) fun way H1 _ _ k1 fd1 => ?_
    dsimp only [gName]
    refine ⟨by decide, fun S hS => ?_⟩
    have good0 : Nine H (upd H1 S (.lst (namesA.map V.str))) f l (N + 1) S := ⟨k1.trans (.of_same (Same.new hS)), fd1.sm (Same.new hS), k1.live _ hS, namesA, upd_same, namesA_nd.1, namesA_nd.2⟩
    change tSeq _ _ _ _ (upd H1 S (.lst (namesA.map V.str)))
    generalize upd H1 S (.lst (namesA.map V.str)) = H2 at *
    refine q_ifMid (fun σ' H' => ∃ S, σ' = [some (.ref f), some (.int way), some (.ref S), none, none, none, none, none, none, none] ∧ Nine H H' f l (N + 1) S) (et_test (ev_eqI (a := way) (b := 1) (ev_var (i := 1) rfl) ev_c)) (fun hb H3 s3 nx hnx => ?_) (fun hb H3 s3 => ⟨S, rfl, good0.1.trans (.of_same s3), good0.2.1.sm s3, good0.2.2.1, let ⟨zs, h1, h2⟩ := good0.2.2.2; ⟨zs, s3 _ _ h1, h2⟩⟩) fun σ' H3 ⟨S3, es, g3⟩ => ?_
    · refine ⟨by decide, fun S3 hS3 => hnx _ _ ⟨S3, rfl, (good0.1.trans (.of_same s3)).trans (.of_same (Same.new hS3)), (good0.2.1.sm s3).sm (Same.new hS3), good0.1.live _ (s3.free hS3), namesB, upd_same, namesB_nd.1, namesB_nd.2⟩⟩
    · subst es
      refine q_ifMid (fun σ' H' => ∃ S z3 z4 z5 z6 z7 z8 z9, σ' = [some (.ref f), some (.int way), some (.ref S), z3, z4, z5, z6, z7, z8, z9] ∧ Nine H H' f l (N + 25) S) (et_test (ev_eqI (a := way) (b := 2) (ev_var (i := 1) rfl) ev_c)) (fun hb H4 s4 nx hnx => ?_) (fun hb H4 s4 => ⟨S3, _, _, _, _, _, _, _, rfl, g3.1.trans (.of_same s4), (g3.2.1.sm s4).mono (by omega), g3.2.2.1, let ⟨zs, h1, h2⟩ := g3.2.2.2; ⟨zs, s4 _ _ h1, h2⟩⟩) fun σ' H4 ⟨S4, z3, z4, z5, z6, z7, z8, z9, es, g4⟩ => ?_
      · have k4 := g3.1.trans (.of_same s4)
        have fd4 := g3.2.1.sm s4
        refine q_asg (P := fun u _ => u = .str abc) ev_c fun v5 H5 s5 e5 => ?_
        subst e5
        refine seqi ?_
        have fd5 := fd4.sm s5
        have k5 := k4.trans (.of_same s5)
        have hz3 := g3.2.2.1
        refine r_draw (m := 8) (σ := [some (.ref f), some (.int way), some (.ref S3), some (.str abc), none, none, none, none, none, none]) (ev_var (i := 0) rfl) ev_c fd5 (by decide) (by decide) (by omega) fun r6 H6 a0 a1 k6 fd6 => ?_
        refine ⟨1, r6, rfl, rfl, ?_⟩
        refine r_draw (m := 26) (σ := [some (.ref f), some (.int way), some (.ref S3), some (.str abc), none, none, none, none, none, none]) (ev_var (i := 0) rfl) ev_c fd6 (by decide) (by decide) (by omega) fun first H7 b0 b1 k7 fd7 => ?_
        refine ⟨_, _, rfl, ?_⟩
        dsimp only
        have k7 := (k5.trans k6).trans k7
        refine seqi ?_
        refine r_draw (m := 1 + r6) (σ := [some (.ref f), some (.int way), some (.ref S3), some (.str abc), some (.int (1 + r6)), some (.int first), none, none, none, none]) (ev_var (i := 0) rfl) (ev_var (i := 4) rfl) fd7 (by omega) (by omega) (by omega) fun at0 H8 c0 c1 k8 fd8 => ?_
        dsimp only [gName]
        have k8 := k7.trans k8
        -- the word
        refine seqi ?_
        refine ⟨⟨"", rfl⟩, ?_⟩
        refine ⟨_, rfl, 1 + r6, rfl, by omega, by omega, fun L hL => ?_⟩
        have nLl : L ≠ l := fun z => fd8.ne.2 (z ▸ hL)
        have nLf : L ≠ f := fun z => fd8.ne.1 (z ▸ hL)
        have hL0 : H L = none := k8.live _ hL
        refine lc_range (lo := 0) (n := (1 + r6).toNat) (fun i H' => Kp f H H' ∧ FeedAt H' f l (N + 4 + i) ∧ ∃ ws : List Str, H' L = some (.lst (ws.map V.str)) ∧ ws.length = i ∧ ∀ z ∈ ws, z.length = 1) ⟨k8.trans (.of_same (Same.new hL)), fd8.sm (Same.new hL), [], upd_same, rfl, fun z h => by cases h⟩ (fun i H9 hi ⟨k9, fd9, ws, hws, lws, ows⟩ => ?_) (fun H9 ⟨k9, fd9, ws, hws, lws, ows⟩ => ?_)
        · have hi9 : i < 10 := by omega
          refine ⟨rfl, ⟨_, rfl, ?_⟩⟩
          refine r_draw (m := 26) (σ := [some (.ref f), some (.int way), some (.ref S3), some (.str abc), some (.int (1 + r6)), some (.int first), some (.int at0), none, some (.int (0 + (i : Int))), none]) (ev_var (i := 0) rfl) ev_c fd9 (by decide) (by decide) (by omega) fun r10 H10 d0 d1 k10 fd10 => ?_
          refine ⟨abc, r10, _, rfl, rfl, by rw [abc_len]; decide, abc_atI d0 d1, ?_⟩
          refine ⟨_, k10.keep _ _ hws nLf, by rw [List.length_map, lws]; exact Nat.lt_trans hi9 (by decide), (k9.trans k10).own hL0, ?_, ws ++ [⟨#[97 + r10.toNat]⟩], by rw [upd_same, List.map_append] <;> rfl, by simp [lws], fun z hz => ?_⟩
          · rw [← Nat.add_assoc]
            exact fd10.oth nLf nLl
          · rcases List.mem_append.mp hz with h | h
            · exact ows z h
            · rw [List.mem_singleton] at h
              rw [h] <;> rfl
        · have sum1 : (ws.map (·.length)).sum = ws.length := by
            clear hws lws
            induction ws with
            | nil => rfl
            | cons z ws ih =>
              rw [List.map_cons, List.sum_cons, List.length_cons, ows z List.mem_cons_self, ih (fun y hy => ows y (List.mem_cons_of_mem _ hy))]
              omega
          have lw8 : ws.length ≤ 8 := by omega
          refine ⟨_, L, ws, rfl, rfl, .inl (sqL_of hws), ?_, ?_⟩
          · rw [sum1]
            show ws.length + ws.length * 0 ≤ _
            omega
          · have jl : (Txt.join ("" : Str) ws).length ≤ 8 := by
              rw [show Txt.join ("" : Str) ws = Str.join ("" : Str) ws from StrLaws.glued_eq_join _ _]
              refine Nat.le_trans (join_len1 _ _) ?_
              rw [sum1, show ("" : Str).length = 0 from by decide +kernel]
              omega
            generalize Txt.join ("" : Str) ws = word at *
            dsimp only [gName]
            refine ⟨by decide, fun S9 hS9 => ?_⟩
            have nSl : S9 ≠ l := fun z => fd9.ne.2 (z ▸ hS9)
            have nSf : S9 ≠ f := fun z => fd9.ne.1 (z ▸ hS9)
            have hS0 : H S9 = none := k9.live _ hS9
            have lw : ∀ lo hi, (cutS word lo hi).length ≤ 8 := fun lo hi => Nat.le_trans (cutS_length _ _ _) jl
            refine ⟨9, rfl, by decide, by decide, for_range (lo := 0) (n := 9) (fun i σ' H' => (∃ z8 z9, σ' = [some (.ref f), some (.int way), some (.ref S9), some (.str abc), some (.int (1 + r6)), some (.int first), some (.int at0), some (.str word), z8, z9]) ∧ Kp f H H' ∧ FeedAt H' f l (N + 4 + (1 + r6).toNat) ∧ H' S9 = some (.lst (((List.range i).map fun k => cutS word none (some at0) ++ signAt first k ++ cutS word (some (at0 + 1)) none).map V.str)))
              ⟨⟨_, _, rfl⟩, k9.trans (.of_same (Same.new hS9)), fd9.sm (Same.new hS9), upd_same⟩ (fun i σ' H' hi ⟨⟨z8, z9, es⟩, k10, fd10, hS10⟩ => ?_) (fun σ' H' ⟨⟨z8, z9, es⟩, k10, fd10, hS10⟩ => ?_)⟩
            · subst es
              have e0 := Int.emod_nonneg (first + 5 * (i : Int)) (b := 26) (by decide)
              have e1 := Int.emod_lt_of_pos (first + 5 * (i : Int)) (b := 26) (by decide)
              refine q_asg (P := fun u _ => u = .str (signAt first i)) (ev_ixS (ev_var (i := 3) rfl) (ev_I (g := fun i j => .int (i % j)) (a := first + 5 * (0 + (i : Int))) (b := 26) (ev_I0 (g := fun i j => .int (i + j)) (ev_var (i := 5) rfl) (ev_I (C := CMul) (g := fun i j => .int (i * j)) (ev_c (v := .int 5)) (ev_var (i := 8) rfl) (.inl ⟨by decide, by decide⟩))) (ev_c (v := .int 26)) (by decide)) (by rw [abc_len]; decide) (by
                rw [Int.zero_add]
                exact abc_atI e0 e1)) fun v11 H11 s11 e11 => ?_
              subst e11
              refine s_app (P := fun u _ => u = .str (cutS word none (some at0) ++ signAt first i ++ cutS word (some (at0 + 1)) none)) kp_ev (ev_var (i := 2) rfl) (ev_addS (ev_addS (ev_slS (ev_var (i := 7) rfl) eo_none (eo_some (ev_var (i := 6) rfl)) (by omega)) (ev_var (i := 9) rfl) (by have := lw none (some at0); show _ + 1 ≤ _; omega)) (ev_slS (ev_var (i := 7) rfl) (eo_some (ev_I0 (g := fun i j => .int (i + j)) (ev_var (i := 6) rfl) (ev_c (v := .int 1)))) eo_none (by omega)) (by
                rw [app_len]
                have h1 := lw none (some at0)
                have h2 := lw (some (at0 + 1)) none
                show _ + 1 + _ ≤ _
                omega)) (s11 _ _ hS10) (by rw [List.length_map, List.length_map, List.length_range]; omega) fun v12 H12 s12 e12 => ?_
              subst e12
              refine ⟨⟨_, _, rfl⟩, (k10.trans (.of_same (s11.trans s12))).own hS0, (fd10.sm (s11.trans s12)).oth nSf nSl, ?_⟩
              rw [upd_same, List.range_succ, List.map_append, List.map_append] <;> rfl
            · subst es
              refine hnx _ _ ⟨S9, _, _, _, _, _, _, _, rfl, k10, fd10.mono (by omega), hS0, _, hS10, words_nd _ _ _, ?_⟩
              rw [List.length_map, List.length_range]
      · subst es
        obtain ⟨k4, fd4, hS4, zs, hz, znd, zl⟩ := g4
        refine ⟨9, rfl, by decide, by decide, fun L hL => ?_⟩
        have nSL : S4 ≠ L := ne_of_none hz hL
        have nLl : L ≠ l := fun z => fd4.ne.2 (z ▸ hL)
        have nLf : L ≠ f := fun z => fd4.ne.1 (z ▸ hL)
        have nSf : S4 ≠ f := fd4.nl hz
        have nSl : S4 ≠ l := fun z => by
          have := fd.ne.2
          rw [z] at hS4
          exact this hS4
        have hL0 : H L = none := k4.live _ hL
        refine lc_range (lo := 0) (n := 9) (fun i H' => Kp f H H' ∧ FeedAt H' f l (N + 25 + i) ∧ ∃ zs ws : List Str, H' S4 = some (.lst (zs.map V.str)) ∧ H' L = some (.lst (ws.map V.str)) ∧ (ws ++ zs).Nodup ∧ ws.length = i ∧ zs.length + i = 9) ⟨k4.trans (.of_same (Same.new hL)), fd4.sm (Same.new hL), zs, [], by rw [upd_ne nSL]; exact hz, upd_same, znd, rfl, zl⟩ (fun i H5 hi ⟨k5, fd5, zs5, ws5, hz5, hw5, nd5, lw5, lz5⟩ => ?_) (fun H5 ⟨k5, fd5, zs5, ws5, hz5, hw5, nd5, lw5, lz5⟩ => ?_)
        · refine ⟨rfl, ⟨_, rfl, .inl ⟨rfl, _, sqL_of hz5⟩, ?_⟩⟩
          have hlen : EvV (tCB (rLenK K) (tCons (tVar 2) tNil)) [some (.ref f), some (.int way), some (.ref S4), z3, z4, z5, z6, z7, some (.int (0 + (i : Int))), z9] H5 (.int (zs5.length : Int)) := fun H6 s6 Q6 q6 => ⟨_, rfl, S4, _, rfl, .inl (sqL_of (s6 _ _ hz5)), by rw [List.length_map]; exact q6 _ H6 (.refl _) rfl⟩
          refine r_draw (σ := [some (.ref f), some (.int way), some (.ref S4), z3, z4, z5, z6, z7, some (.int (0 + (i : Int))), z9]) (m := (zs5.length : Int)) (ev_var (i := 0) rfl) hlen fd5 (by omega) (by omega) (by omega) fun r H6 r0 r1 k6 fd6 => ?_
          have hz6 := k6.keep _ _ hz5 nSf
          have hw6 := k6.keep _ _ hw5 nLf
          have hr : r.toNat < zs5.length := by omega
          have hix : ixN (zs5.map V.str).length r = some r.toNat := by
            unfold ixN
            rw [List.length_map, if_pos r0, if_pos r1]
          refine ⟨S4, _, r, r.toNat, .str zs5[r.toNat], rfl, rfl, hz6, by omega, by omega, (ixN_seq hix).1, by rw [List.getElem?_map, List.getElem?_eq_getElem hr] <;> rfl, ?_⟩
          refine ⟨ws5.map V.str, by rw [upd_ne nSL.symm]; exact hw6, by rw [List.length_map, lw5]; exact Nat.lt_of_lt_of_le hi (by decide), ((k5.trans k6).own hS4).own hL0, ?_, zs5.eraseIdx r.toNat, ws5 ++ [zs5[r.toNat]], ?_, ?_, ?_, ?_, ?_⟩
          · rw [← Nat.add_assoc]
            exact (fd6.oth nSf nSl).oth nLf nLl
          · rw [upd_ne nSL, upd_same]
            rw [List.eraseIdx_eq_take_drop_succ, List.eraseIdx_eq_take_drop_succ, List.map_append, List.map_take, List.map_drop]
          · rw [upd_same, List.map_append] <;> rfl
          · have e : zs5 = zs5.take r.toNat ++ zs5[r.toNat] :: zs5.drop (r.toNat + 1) := by
              rw [← List.drop_eq_getElem_cons hr, List.take_append_drop]
            rw [List.eraseIdx_eq_take_drop_succ]
            have p : (ws5 ++ zs5).Perm ((ws5 ++ [zs5[r.toNat]]) ++ (zs5.take r.toNat ++ zs5.drop (r.toNat + 1))) := by
              conv => lhs; rw [e]
              rw [List.append_assoc]
              exact List.Perm.append_left _ List.perm_middle
            exact p.nodup_iff.mp nd5
          · simp [lw5]
          · rw [List.length_eraseIdx_of_lt hr]
            omega
        · have hz0 : zs5 = [] := List.length_eq_zero_iff.mp (by omega)
          subst hz0
          rw [List.append_nil] at nd5
          exact q (.ref L) H5 L ws5 rfl k5 (fd5.mono (by omega)) hL0 hw5 nd5 lw5
end
end K34
namespace K34
open PySem PySem.Spec L2

section
variable {P : Program} {w : World} {K : PySem.W.Frag} {mg : Str → Option Value} {base : Heap} {CH CW aK aA aG : Addr} {H H' : Hp} {σ : St} {ta tb te : TE} {x y v : V} {f l : Addr} {N : Nat} {m : Int}
theorem el_slL {tl th : TO} {lo hi : Option Int} {ks : List NestedKey} (h : EvP te σ H fun v H2 => LF K H2 v ks) (hl : EvO tl σ H lo) (hh : EvO th σ H hi) : EvP (tSl (rSlL K) te tl th) σ H fun v H2 => LW H H2 v (cutK ks lo hi) := fun H1 s Q q => h H1 s _ fun v H2 s2 lf => hl H2 (s.trans s2) _ fun H3 s3 => hh H3 ((s.trans s2).trans s3) _ fun H4 s4 => by
  obtain ⟨a, xs, rfl, hx, fx⟩ := (lf.sm s3).sm s4
  have g : FzA H4 (cutV xs lo hi) (cutK ks lo hi) := fx.cut lo hi
  exact ⟨a, xs, rfl, hx, fun p hp => q _ _ (((s2.trans s3).trans s4).trans (Same.new hp)) ⟨p, _, rfl, s.free (s2.free (s3.free (s4.free hp))), upd_same, g.sm (Same.new hp)⟩⟩
theorem cutK_mem {ks : List NestedKey} {lo hi : Option Int} {k : NestedKey} (h : k ∈ cutK ks lo hi) : k ∈ ks := by
  unfold cutK at h
  exact List.mem_of_mem_drop (List.mem_of_mem_take h)
theorem cutK_len (ks : List NestedKey) (lo hi : Option Int) : (cutK ks lo hi).length ≤ ks.length := by
  unfold cutK
  rw [List.length_take, List.length_drop]
  omega
theorem cutK_pre {ks : List NestedKey} {n : Int} (h : 0 ≤ n) : cutK ks none (some n) = ks.take n.toNat := by
  unfold cutK
  have e1 : HT.sIx ks.length 0 none = 0 := rfl
  rw [e1, List.drop_zero, Nat.sub_zero]
  have e2 : HT.sIx ks.length ks.length (some n) = min n.toNat ks.length := by
    unfold HT.sIx
    simp
    intro hn
    omega
  rw [e2]
  by_cases z : n.toNat ≤ ks.length
  · rw [Nat.min_eq_left z]
  · rw [Nat.min_eq_right (by omega), List.take_length, List.take_of_length_le (by omega)]
/-- a page of a drawn book -/
def BpOk (pg : Page) : Prop := PgOk pg ∧ 0 ≤ pg.day ∧ pg.day ≤ 20000
def spBook (K : PySem.W.Frag) : Sp := fun vs H Q _ => ∃ f l N v names many wide, vs = [.ref f, v, .int many, .int wide] ∧ FeedAt H f l N ∧ N + 1000 < 2 ^ 40 ∧ LF K H v (txs names) ∧ names.Nodup ∧ 2 ≤ names.length ∧ names.length ≤ 9 ∧ 0 ≤ many ∧ many ≤ 20 ∧ 0 < wide ∧ wide ≤ 1000 ∧
  ∀ v' H' ps, Kp f H H' → FeedAt H' f l (N + 600) → Fz H' v' (.tup ((sortP (dedupP ps)).map Page.key)) → ps.length ≤ 40 → (∀ p ∈ ps, BpOk p) → (∃ d a h, Page.house d a h ∈ ps) → Q v' H'
theorem sc_L_book : FnScope ["_law_feed_here", "_law_names_here", "_law_many", "_law_wide", "_law_begin", "_law_pages", "_law_name", "_law_k"] ["_law_feed_here", "_law_names_here", "_law_many", "_law_wide"] (defScope s_L_book) := ⟨rfl, rfl, rfl, by decide +kernel, rfl, by decide +kernel, by decide +kernel⟩
theorem ok_book (T : Txt K mg CH CW aK aA aG) (D : Dat K mg "_law_book" "_law_book" s_L_book ["_law_feed_here", "_law_names_here", "_law_many", "_law_wide"]) (G_L_draw : OK P w K mg base 1 "_law_draw" ["_law_feed_here", "_law_many"] spDraw) (G_L_home : OK P w K mg base 3 "_law_home" ["_law_feed_here"] spHome) (G_L_page : OK P w K mg base 5 "_law_page" ["_law_feed_here", "_law_names_here", "_law_day"] (spPage K)) (G_L_standing_so : OK P w K mg base 5 "_law_standing_so" ["_law_pages"] (spStanding K)) :
    OK P w K mg base 7 "_law_book" ["_law_feed_here", "_law_names_here", "_law_many", "_law_wide"] (spBook K) := by
  refine ok_mk D sc_L_book (fun vs H Q E h => ?_) (fun f0 cdv A outer s H vs Q E hr h => ?_)
  · obtain ⟨f, l, N, v, names, many, wide, rfl, _⟩ := h
    rfl
  · obtain ⟨f, l, N, v, names, many, wide, rfl, fd, hN, lf, nd, n2, n9, hm0, hm, hw0, hw, q⟩ := h
    refine ⟨_, (pss_cons (ps_set (i := 4) sc_L_book.nd rfl (Or.inl rfl) (pe_ix ix_list (pe_lst (pa_cons pe_int (pa_cons pe_int (pa_cons (px_call G_L_draw (hr.mono (by decide)) (by rfl) (pa_cons (pv 0) (pa_cons pe_int pa_nil))) pa_nil)))) (px_call G_L_draw (hr.mono (by decide)) (by rfl) (pa_cons (pv 0) (pa_cons pe_int pa_nil))) (fun _ _ => rfl))) (pss_cons (ps_set (i := 5) sc_L_book.nd rfl (Or.inl rfl) (pe_lst pa_nil)) (pss_cons (ps_for PassesOwn.never rfl (pi_list (pe_slice sl_list (pv 1) po_none (po_some (pe_op op_add pe_int (pe_op op_fdiv (pe_callB call_lenK (by rfl) T.len b_len (pa_cons (pv 1) pa_nil)) pe_int))))) (pg_name (i := 6) sc_L_book.nd rfl (Or.inl rfl)) (pss_one (ps_expr (pe_bm PySem.F.plainAttrs_list PySem.F.slot_list_append PySem.F.type_list_append mt_append (pv 5) (pa_cons (pe_tup (pa_cons pe_str (pa_cons (pe_op op_add (pv 4) (px_call G_L_draw (hr.mono (by decide)) (by rfl) (pa_cons (pv 0) (pa_cons pe_int pa_nil)))) (pa_cons (pv 6) (pa_cons (px_call G_L_home (hr.mono (by decide)) (by rfl) (pa_cons (pv 0) pa_nil)) pa_nil))))) pa_nil))))) (pss_cons (ps_for PassesOwn.never rfl (pi_range1 (by rfl) T.range (pa_cons (pv 2) pa_nil)) (pg_name (i := 7) sc_L_book.nd rfl (Or.inl rfl)) (pss_one (ps_expr (pe_bm PySem.F.plainAttrs_list PySem.F.slot_list_append PySem.F.type_list_append mt_append (pv 5) (pa_cons (px_call G_L_page (hr.mono (by decide)) (by rfl) (pa_cons (pv 0) (pa_cons (pv 1) (pa_cons (pe_op op_add (pv 4) (px_call G_L_draw (hr.mono (by decide)) (by rfl) (pa_cons (pv 0) (pa_cons (pv 3) pa_nil)))) pa_nil)))) pa_nil))))) (pss_one (ps_ret (px_call G_L_standing_so (hr.mono (by decide)) (by rfl) (pa_cons (pv 5) pa_nil)))))))), ?_⟩
    have tl : (txs names).length = names.length := List.length_map _
    -- begin
    refine seqi ?_
    refine r_draw (m := 9000) (σ := [some (.ref f), some v, some (.int many), some (.int wide), none, none, none, none]) (ev_var (i := 0) rfl) ev_c fd (by decide) (by decide) (by omega) fun r1 H1 a0 a1 k1 fd1 => ?_
    refine ⟨by show (3 : Nat) ≤ sizeLine; decide, fun p hp => ?_⟩
    have s1 := Same.new (o := .lst [.int 0, .int 5, .int r1]) hp
    have npf : p ≠ f := fun z => fd1.ne.1 (z ▸ hp)
    refine r_draw (m := 3) (σ := [some (.ref f), some v, some (.int many), some (.int wide), none, none, none, none]) (ev_var (i := 0) rfl) ev_c (fd1.sm s1) (by decide) (by decide) (by omega) fun r2 H2 b0 b1 k2 fd2 => ?_
    have hp2 := k2.keep _ _ (upd_same (H := H1)) npf
    obtain ⟨bg, hbg, hbg0, hbg1⟩ : ∃ bg : Int, L2.atI [V.int 0, V.int 5, V.int r1] r2 = some (.int bg) ∧ 0 ≤ bg ∧ bg ≤ 9000 := by
      have : r2 = 0 ∨ r2 = 1 ∨ r2 = 2 := by omega
      rcases this with h | h | h <;> subst h
      · exact ⟨0, rfl, by decide, by decide⟩
      · exact ⟨5, rfl, by decide, by decide⟩
      · exact ⟨r1, rfl, a0, by omega⟩
    refine ⟨p, _, r2, _, rfl, rfl, sqL_of hp2, hbg, ?_⟩
    dsimp only [gName]
    have kk2 := (k1.trans (.of_same s1)).trans k2
    have lf2 := ((lf.kp fd k1).sm s1).kp (fd1.sm s1) k2
    -- pages
    refine ⟨by decide, fun G hG => ?_⟩
    have sG := Same.new (o := .lst []) hG
    have nGl : G ≠ l := fun z => fd2.ne.2 (z ▸ hG)
    have nGf : G ≠ f := fun z => fd2.ne.1 (z ▸ hG)
    have hG0 : H G = none := kk2.live _ hG
    have lf3 := lf2.sm sG
    have fd3 := fd2.sm sG
    have kk3 := kk2.trans (.of_same sG)
    have hG3 : upd H2 G (.lst []) G = some (.lst []) := upd_same
    change tSeq _ _ _ _ (upd H2 G (.lst []))
    generalize upd H2 G (.lst []) = H3 at *
    have lenE : EvV (tCB (rLenK K) (tCons (tVar 1) tNil)) [some (.ref f), some v, some (.int many), some (.int wide), some (.int bg), some (.ref G), none, none] H3 (.int (names.length : Int)) := by
      have := ev_lenL (K := K) (σ := [some (.ref f), some v, some (.int many), some (.int wide), some (.int bg), some (.ref G), none, none]) (ep_var (i := 1) (P := fun v H => LF K H v (txs names)) rfl kp_lf lf3)
      rw [tl] at this
      exact this
    have sl := el_slL (K := K) (σ := [some (.ref f), some v, some (.int many), some (.int wide), some (.int bg), some (.ref G), none, none]) (H := H3) (ep_var (i := 1) (P := fun v H => LF K H v (txs names)) rfl kp_lf lf3) eo_none (eo_some (ev_I0 (g := fun i j => .int (i + j)) (ev_c (v := .int 1)) (ev_I (C := CDiv) (g := fun i j => .int (i / j)) lenE (ev_c (v := .int 2)) ⟨by decide, by decide⟩)))
    have hcl : 1 ≤ (cutK (txs names) none (some (1 + (names.length : Int) / 2))).length := by
      rw [cutK_pre (by omega), List.length_take, tl]
      omega
    have hc9 : (cutK (txs names) none (some (1 + (names.length : Int) / 2))).length ≤ 9 := Nat.le_trans (cutK_len _ _ _) (by rw [tl]; exact n9)
    have hmem : ∀ k ∈ cutK (txs names) none (some (1 + (names.length : Int) / 2)), ∃ z, k = NestedKey.text z := fun k hk => by
      obtain ⟨z, _, e⟩ := List.mem_map.mp (cutK_mem hk)
      exact ⟨z, e.symm⟩
    generalize cutK (txs names) none (some (1 + (names.length : Int) / 2)) = ck at *
    refine seqi (s_forW sl fun L ys H4 s4 hnL hL4 fL4 => ?_)
    have nLf : L ≠ f := fun z => fd3.ne.1 (z ▸ hnL)
    have nLG : L ≠ G := fun z => by rw [z, hG3] at hnL; cases hnL
    refine ⟨fun i σ' H' => (∃ z6, σ' = [some (.ref f), some v, some (.int many), some (.int wide), some (.int bg), some (.ref G), z6, none]) ∧ Kp f H H' ∧ LF K H' v (txs names) ∧ (TK H4 H' ∧ H' L = some (.lst ys)) ∧ FeedAt H' f l (N + 2 + 9 * i) ∧ ∃ (ps : List Page) (zs : List V), H' G = some (.lst zs) ∧ FzA H' zs (ps.map Page.key) ∧ ps.length = i ∧ (∀ p ∈ ps, BpOk p) ∧ (0 < i → ∃ d a h, Page.house d a h ∈ ps),
      ⟨⟨_, rfl⟩, kk3.trans (.of_same s4), lf3.sm s4, ⟨.refl _, hL4⟩, (fd3.sm s4).mono (by omega), [], [], s4 _ _ hG3, .nil, rfl, (fun p h => by cases h), fun h => absurd h (by decide)⟩, fun i σ' H' p => p.2.2.2.1, fun i j x σ' H' hj fj ⟨⟨z6, es⟩, k5, lf5, ⟨t5, l5⟩, fd5, ps, zs, hz5, fz5, lp5, op5, hp5⟩ => ?_, fun σ' H' ⟨⟨z6, es⟩, k5, lf5, ⟨t5, l5⟩, fd5, ps, zs, hz5, fz5, lp5, op5, hp5⟩ => ?_⟩
    · subst es
      have hi9 : i < 9 := Nat.lt_of_lt_of_le (List.getElem?_eq_some_iff.mp hj).1 hc9
      obtain ⟨nm, rfl⟩ := hmem j (List.mem_of_getElem? hj)
      obtain rfl := fj.str_inv
      refine ⟨_, rfl, .inl ⟨rfl, _, sqL_of hz5⟩, ?_⟩
      refine ⟨_, rfl, ?_⟩
      refine r_draw (m := 2) (σ := [some (.ref f), some v, some (.int many), some (.int wide), some (.int bg), some (.ref G), some (.str nm), none]) (ev_var (i := 0) rfl) ev_c fd5 (by decide) (by decide) (by omega) fun r6 H6 c0 c1 k6 fd6 => ?_
      refine ⟨bg, r6, rfl, rfl, _, rfl, _, rfl, ?_⟩
      refine ⟨f, l, _, rfl, fd6, by omega, fun v7 H7 h k7 fd7 f7 => ?_⟩
      refine ⟨by show (4 : Nat) ≤ sizeLine; decide, fun p8 hp8 => ?_⟩
      have s8 := Same.new (o := .tup [.str "house", .int (bg + r6), .str nm, v7]) hp8
      have hz8 := s8 _ _ (k7.keep _ _ (k6.keep _ _ hz5 nGf) nGf)
      have t8 : TK H' (upd H7 p8 (.tup [.str "house", .int (bg + r6), .str nm, v7])) := ((fd5.tk k6).trans (fd6.tk k7)).trans (.of_same s8)
      have fpg : Fz (upd H7 p8 (.tup [.str "house", .int (bg + r6), .str nm, v7])) (.ref p8) (Page.key (.house (bg + r6) nm h)) := .tup upd_same (.cons (.str _) (.cons (.int _) (.cons (.str _) (.one (f7.sm s8)))))
      have lf8 := ((lf5.kp fd5 k6).kp fd6 k7).sm s8
      have fd8 := fd7.sm s8
      have hL8 := s8 _ _ (k7.keep _ _ (k6.keep _ _ l5 nLf) nLf)
      have kk8 := ((k5.trans k6).trans k7).trans (.of_same s8)
      have fz8 := fz5.tk t8
      generalize upd H7 p8 (.tup [.str "house", .int (bg + r6), .str nm, v7]) = H8 at *
      have t9 : TK H8 (upd H8 G (.lst (zs ++ [.ref p8]))) := TK.upd fun xs z => by rw [hz8] at z; cases z
      refine ⟨G, zs, .ref p8, rfl, rfl, hz8, ?_, ⟨_, rfl⟩, kk8.own hG0, ?_, ⟨(t5.trans t8).trans t9, by rw [upd_ne nLG]; exact hL8⟩, (fd8.oth nGf nGl).mono (by omega), ps ++ [.house (bg + r6) nm h], _, upd_same, ?_, by simp [lp5], fun p hp => ?_, fun _ => ⟨_, _, _, List.mem_append_right _ (List.mem_singleton.mpr rfl)⟩⟩
      · have : zs.length = i := by rw [fz5.length, List.length_map, lp5]
        rw [this]
        exact Nat.lt_trans hi9 (by decide)
      · exact lf.kp fd (kk8.own hG0)
      · rw [List.map_append]
        exact (fz8.tk t9).append (.one (fpg.tk t9))
      · rcases List.mem_append.mp hp with h' | h'
        · exact op5 p h'
        · rw [List.mem_singleton] at h'
          subst h'
          exact ⟨fun _ _ _ e => (by cases e), (by show 0 ≤ bg + r6; omega), (by show bg + r6 ≤ 20000; omega)⟩
    · subst es
      have hp5 := hp5 (by omega)
      dsimp only
      have fd5 := fd5.mono (M := N + 2 + 81) (by omega)
      have lp9 : ps.length ≤ 9 := by omega
      refine seqi ⟨_, rfl, many, rfl, by omega, by omega, for_range (lo := 0) (n := many.toNat) (fun i σ' H' => (∃ z7, σ' = [some (.ref f), some v, some (.int many), some (.int wide), some (.int bg), some (.ref G), z6, z7]) ∧ Kp f H H' ∧ FeedAt H' f l (N + 83 + 21 * i) ∧ ∃ (ps : List Page) (zs : List V), H' G = some (.lst zs) ∧ FzA H' zs (ps.map Page.key) ∧ ps.length ≤ 9 + i ∧ (∀ p ∈ ps, BpOk p) ∧ (∃ d a h, Page.house d a h ∈ ps))
        ⟨⟨_, rfl⟩, k5, fd5, ps, zs, hz5, fz5, lp9, op5, hp5⟩ (fun i σ' H6 hi ⟨⟨z7, es⟩, k6, fd6, ps6, zs6, hz6, fz6, lp6, op6, hp6⟩ => ?_) (fun σ' H6 ⟨⟨z7, es⟩, k6, fd6, ps6, zs6, hz6, fz6, lp6, op6, hp6⟩ => ?_)⟩
      · subst es
        have hi20 : i < 20 := by omega
        refine ⟨_, rfl, .inl ⟨rfl, _, sqL_of hz6⟩, ?_⟩
        refine ⟨_, rfl, _, rfl, _, rfl, ?_⟩
        refine r_draw (m := wide) (σ := [some (.ref f), some v, some (.int many), some (.int wide), some (.int bg), some (.ref G), z6, some (.int (0 + (i : Int)))]) (ev_var (i := 0) rfl) (ev_var (i := 3) rfl) fd6 hw0 (by omega) (by omega) fun r7 H7 c0 c1 k7 fd7 => ?_
        have kk7 := k6.trans k7
        refine ⟨bg, r7, rfl, rfl, ?_⟩
        refine ⟨f, l, _, v, names, bg + r7, rfl, fd7, by omega, lf.kp fd kk7, nd, n2, by omega, fun v8 H8 pg k8 fd8 f8 ed eo => ?_⟩
        have kk8 := kk7.trans k8
        have hz8 := k8.keep _ _ (k7.keep _ _ hz6 nGf) nGf
        have t8 : TK H6 H8 := (fd6.tk k7).trans (fd7.tk k8)
        have t9 : TK H8 (upd H8 G (.lst (zs6 ++ [v8]))) := TK.upd fun xs z => by rw [hz8] at z; cases z
        refine ⟨G, zs6, v8, rfl, rfl, hz8, ?_, ⟨_, rfl⟩, kk8.own hG0, (fd8.oth nGf nGl).mono (by omega), ps6 ++ [pg], _, upd_same, ?_, by simp; omega, fun p hp => ?_, let ⟨d, a, h, hh⟩ := hp6; ⟨d, a, h, List.mem_append_left _ hh⟩⟩
        · have : zs6.length ≤ 29 := by rw [fz6.length, List.length_map]; omega
          exact Nat.lt_of_le_of_lt this (by decide)
        · rw [List.map_append]
          exact ((fz6.tk t8).tk t9).append (.one (f8.tk t9))
        · rcases List.mem_append.mp hp with h' | h'
          · exact op6 p h'
          · rw [List.mem_singleton] at h'
            subst h'
            exact ⟨eo, (by rw [ed]; omega), (by rw [ed]; omega)⟩
      · subst es
        have hmn : many.toNat ≤ 20 := by omega
        exact ⟨_, rfl, .ref G, ps6, rfl, ⟨G, zs6, rfl, sqL_of hz6, fz6⟩, by omega, fun v8 H8 s8 f8 => q v8 H8 ps6 (k6.trans (.of_same s8)) ((fd6.sm s8).mono (by omega)) f8 (by omega) op6 hp6⟩
end
end K34
namespace K34
open PySem PySem.Spec L2

section
variable {P : Program} {w : World} {K : PySem.W.Frag} {mg : Str → Option Value} {base : Heap} {CH CW aK aA aG : Addr} {H H' : Hp} {σ : St} {ta tb te : TE} {x y v : V} {f l : Addr} {N : Nat} {m : Int}
/-- one of four, drawn -/
theorem r_pick {a b c d : Int} {i : Nat} {Q : VK} {E : XK} (hσ : σ[i]? = some (some (.ref f))) (fd : FeedAt H f l N) (hN : N < 2 ^ 40) (k : ∀ r H', (r = a ∨ r = b ∨ r = c ∨ r = d) → Kp f H H' → FeedAt H' f l (N + 1) → Q (.int r) H') :
    tOp (rIxL K) (tLst (tCons (tC (.int a)) (tCons (tC (.int b)) (tCons (tC (.int c)) (tCons (tC (.int d)) tNil))))) (tCall spDraw [] E (tCons (tVar i) (tCons (tC (.int 4)) tNil))) σ H Q := by
  refine ⟨by show (4 : Nat) ≤ sizeLine; decide, fun p hp => ?_⟩
  have s1 := Same.new (o := .lst [.int a, .int b, .int c, .int d]) hp
  have npf : p ≠ f := fun z => fd.ne.1 (z ▸ hp)
  refine r_draw (m := 4) (ev_var hσ) ev_c (fd.sm s1) (by decide) (by decide) hN fun r H1 r0 r1 k1 fd1 => ?_
  have hp1 := k1.keep _ _ (upd_same (H := H)) npf
  have kk := (Kp.of_same s1).trans k1
  have : r = 0 ∨ r = 1 ∨ r = 2 ∨ r = 3 := by omega
  rcases this with h | h | h | h <;> subst h
  · exact ⟨p, _, 0, _, rfl, rfl, sqL_of hp1, rfl, k a H1 (.inl rfl) kk fd1⟩
  · exact ⟨p, _, 1, _, rfl, rfl, sqL_of hp1, rfl, k b H1 (.inr (.inl rfl)) kk fd1⟩
  · exact ⟨p, _, 2, _, rfl, rfl, sqL_of hp1, rfl, k c H1 (.inr (.inr (.inl rfl))) kk fd1⟩
  · exact ⟨p, _, 3, _, rfl, rfl, sqL_of hp1, rfl, k d H1 (.inr (.inr (.inr rfl))) kk fd1⟩
theorem cutV_pre {ks : List V} {n : Int} (h : 0 ≤ n) : cutV ks none (some n) = ks.take n.toNat := by
  unfold cutV
  have e1 : HT.sIx ks.length 0 none = 0 := rfl
  rw [e1, List.drop_zero, Nat.sub_zero]
  have e2 : HT.sIx ks.length ks.length (some n) = min n.toNat ks.length := by
    unfold HT.sIx
    simp
    intro hn
    omega
  rw [e2]
  by_cases z : n.toNat ≤ ks.length
  · rw [Nat.min_eq_left z]
  · rw [Nat.min_eq_right (by omega), List.take_length, List.take_of_length_le (by omega)]
/-- a drawn case's book -/
def CaseBook (bk : List Page) : Prop := ∃ ps : List Page, ps.length ≤ 40 ∧ (∀ p ∈ ps, BpOk p) ∧ (∃ d a h, Page.house d a h ∈ ps) ∧ (bk = sortP (dedupP ps) ∨ bk = (sortP (dedupP ps)).filter fun p => !decide (p.kix = 1))
def spCase : Sp := fun vs H Q _ => ∃ f l N, vs = [.ref f] ∧ FeedAt H f l N ∧ N + 3000 < 2 ^ 40 ∧ ∀ a H' vB vT dl bk t ds, Kp f H H' → FeedAt H' f l (N + 800) → H' a = some (.tup [vB, vT, .ref dl]) → H' dl = some (.lst (List.map V.int ds)) → ds.length = 3 →
  Fz H' vB (.tup (bk.map Page.key)) → TermsF H' vT t → CaseBook bk → bk ≠ [] → (1 ≤ t.1 ∧ t.1 ≤ 60 ∧ 1 ≤ t.2 ∧ t.2 ≤ 60) → (∀ d ∈ ds, 0 ≤ d ∧ d ≤ 30000) → Q (.ref a) H'
theorem mem_dedup {ps : List Page} {p : Page} : p ∈ dedupP ps ↔ p ∈ ps := by
  have go : ∀ (ps acc : List Page), p ∈ ps.foldl (fun acc p => if p ∈ acc then acc else acc ++ [p]) acc ↔ p ∈ acc ∨ p ∈ ps := by
    intro ps
    induction ps with
    | nil => intro acc; simp
    | cons q ps ih =>
      intro acc
      rw [List.foldl_cons, ih]
      by_cases h : q ∈ acc
      · rw [if_pos h]
        constructor
        · rintro (z | z)
          · exact .inl z
          · exact .inr (List.mem_cons_of_mem _ z)
        · rintro (z | z)
          · exact .inl z
          · rcases List.mem_cons.mp z with e | e
            · exact .inl (e ▸ h)
            · exact .inr e
      · rw [if_neg h]
        simp only [List.mem_append, List.mem_cons, List.not_mem_nil, or_false]
        constructor
        · rintro ((z | z) | z)
          · exact .inl z
          · exact .inr (.inl z)
          · exact .inr (.inr z)
        · rintro (z | z | z)
          · exact .inl (.inl z)
          · exact .inl (.inr z)
          · exact .inr z
  have := go ps []
  simp at this
  exact this
theorem mem_sortP {ps : List Page} {p : Page} : p ∈ sortP ps ↔ p ∈ ps := by
  unfold sortP
  exact List.mem_mergeSort
theorem case_ne {bk : List Page} (h : CaseBook bk) : bk ≠ [] ∧ (∀ p ∈ bk, BpOk p) ∧ bk.length ≤ 40 := by
  obtain ⟨ps, hz, ok, ⟨d, a, hh, hm⟩, e⟩ := h
  have hm' : Page.house d a hh ∈ sortP (dedupP ps) := mem_sortP.mpr (mem_dedup.mpr hm)
  have hl : (sortP (dedupP ps)).length ≤ 40 := by
    unfold sortP
    rw [List.length_mergeSort]
    exact Nat.le_trans (dedup_len ps) hz
  rcases e with e | e <;> subst e
  · exact ⟨List.ne_nil_of_mem hm', fun p hp => ok p (mem_dedup.mp (mem_sortP.mp hp)), hl⟩
  · refine ⟨List.ne_nil_of_mem (List.mem_filter.mpr ⟨hm', rfl⟩), fun p hp => ok p (mem_dedup.mp (mem_sortP.mp (List.mem_filter.mp hp).1)), Nat.le_trans (List.length_filter_le _ _) hl⟩
theorem sc_L_case : FnScope ["_law_feed_here", "_law_great", "_law_many", "_law_wide", "_law_most", "_law_names_here", "_law_book_here", "_law_page_here", "_law_terms", "_law_k"] ["_law_feed_here"] (defScope s_L_case) := ⟨rfl, rfl, rfl, by decide +kernel, rfl, by decide +kernel, by decide +kernel⟩
theorem ok_case (T : Txt K mg CH CW aK aA aG) (D : Dat K mg "_law_case" "_law_case" s_L_case ["_law_feed_here"]) (G_L_draw : OK P w K mg base 1 "_law_draw" ["_law_feed_here", "_law_many"] spDraw) (G_L_names : OK P w K mg base 3 "_law_names" ["_law_feed_here"] spNames) (G_L_book : OK P w K mg base 7 "_law_book" ["_law_feed_here", "_law_names_here", "_law_many", "_law_wide"] (spBook K)) :
    OK P w K mg base 9 "_law_case" ["_law_feed_here"] spCase := by
  refine ok_mk D sc_L_case (fun vs H Q E h => ?_) (fun f0 cdv A outer s H vs Q E hr h => ?_)
  · obtain ⟨f, l, N, rfl, _⟩ := h
    rfl
  · obtain ⟨f, l, N, rfl, fd, hN, q⟩ := h
    refine ⟨_, (pss_cons (ps_set (i := 1) sc_L_case.nd rfl (Or.inl rfl) (pe_cmpR op_eq (px_call G_L_draw (hr.mono (by decide)) (by rfl) (pa_cons (pv 0) (pa_cons pe_int pa_nil))) pe_int (nomark _))) (pss_cons (ps_asg (pe_tup (pa_cons (pe_ix ix_list (pe_lst (pa_cons pe_int (pa_cons pe_int (pa_cons pe_int (pa_cons pe_int pa_nil))))) (px_call G_L_draw (hr.mono (by decide)) (by rfl) (pa_cons (pv 0) (pa_cons pe_int pa_nil))) (fun _ _ => rfl)) (pa_cons (pe_ix ix_list (pe_lst (pa_cons pe_int (pa_cons pe_int (pa_cons pe_int (pa_cons pe_int pa_nil))))) (px_call G_L_draw (hr.mono (by decide)) (by rfl) (pa_cons (pv 0) (pa_cons pe_int pa_nil))) (fun _ _ => rfl)) pa_nil))) (pg_tup rfl (pgs_cons (pg_name (i := 2) sc_L_case.nd rfl (Or.inl rfl)) (pgs_cons (pg_name (i := 3) sc_L_case.nd rfl (Or.inr rfl)) pgs_nil)))) (pss_cons (ps_set (i := 4) sc_L_case.nd rfl (Or.inl rfl) (pe_ix ix_list (pe_lst (pa_cons pe_int (pa_cons pe_int (pa_cons pe_int (pa_cons pe_int pa_nil))))) (px_call G_L_draw (hr.mono (by decide)) (by rfl) (pa_cons (pv 0) (pa_cons pe_int pa_nil))) (fun _ _ => rfl))) (pss_cons (ps_set (i := 5) sc_L_case.nd rfl (Or.inl rfl) (pe_slice sl_list (px_call G_L_names (hr.mono (by decide)) (by rfl) (pa_cons (pv 0) pa_nil)) po_none (po_some (pe_ifExp (pt_val (pv 1)) pe_int (pv 2))))) (pss_cons (ps_if (pt_val (pv 1)) (pss_one (ps_asg (pe_tup (pa_cons pe_int (pa_cons pe_int pa_nil))) (pg_tup rfl (pgs_cons (pg_name (i := 3) sc_L_case.nd rfl (Or.inr rfl)) (pgs_cons (pg_name (i := 4) sc_L_case.nd rfl (Or.inl rfl)) pgs_nil))))) pss_nil) (pss_cons (ps_set (i := 6) sc_L_case.nd rfl (Or.inr rfl) (px_call G_L_book (hr.mono (by decide)) (by rfl) (pa_cons (pv 0) (pa_cons (pv 5) (pa_cons (pe_ifExp (pt_val (pv 1)) pe_int (pe_op op_add pe_int (px_call G_L_draw (hr.mono (by decide)) (by rfl) (pa_cons (pv 0) (pa_cons pe_int pa_nil))))) (pa_cons (pv 3) pa_nil)))))) (pss_cons (ps_if (pt_val (pv 1)) (pss_one (ps_set (i := 6) sc_L_case.nd rfl (Or.inr rfl) (pe_callTy call_tuple_of (by rfl) T.tuple b_tuple (pa_cons (pe_lc (own := [("_law_page_here", 7)]) rfl sc_L_case.nd (pi_tup (pv 6)) (blkOk_by (own := [("_law_page_here", 7)]) (N := ["_law_feed_here", "_law_great", "_law_many", "_law_wide", "_law_most", "_law_names_here", "_law_book_here", "_law_page_here", "_law_terms", "_law_k"]) (sc := defScope s_L_case) (by decide +kernel)) (fun _ _ _ _ _ => (pg_name (i := 7) sc_L_case.nd rfl (Or.inl rfl))) (fun _ _ _ _ _ => (pts_one (pt_cmpR op_ne (pe_ix (r := rIxT K) ix_tup (pv 7) pe_int (fun _ _ => rfl)) pe_str (nomark _)))) (fun _ _ _ _ _ => (pv 7))) pa_nil)))) pss_nil) (pss_cons (ps_set (i := 8) sc_L_case.nd rfl (Or.inl rfl) (pe_tup (pa_cons (pe_op op_add pe_int (px_call G_L_draw (hr.mono (by decide)) (by rfl) (pa_cons (pv 0) (pa_cons (pv 4) pa_nil)))) (pa_cons (pe_op op_add pe_int (px_call G_L_draw (hr.mono (by decide)) (by rfl) (pa_cons (pv 0) (pa_cons (pv 4) pa_nil)))) pa_nil)))) (pss_one (ps_ret (pe_tup (pa_cons (pv 6) (pa_cons (pv 8) (pa_cons (pe_lc (own := [("_law_k", 9)]) rfl sc_L_case.nd (pi_range1 (by rfl) T.range (pa_cons pe_int pa_nil)) (blkOk_by (own := [("_law_k", 9)]) (N := ["_law_feed_here", "_law_great", "_law_many", "_law_wide", "_law_most", "_law_names_here", "_law_book_here", "_law_page_here", "_law_terms", "_law_k"]) (sc := defScope s_L_case) (by decide +kernel)) (fun _ _ _ _ _ => (pg_name (i := 9) sc_L_case.nd rfl (Or.inl rfl))) (fun _ _ _ _ _ => pts_nil) (fun _ _ _ _ _ => (pe_op op_add (pe_ix (r := rIxT K) ix_tup (pe_ix (r := rIxT K) ix_tup (pv 6) pe_int (fun _ _ => rfl)) pe_int (fun _ _ => rfl)) (px_call G_L_draw (hr.mono (by decide)) (by rfl) (pa_cons (pv 0) (pa_cons (pe_op op_add (pv 3) pe_int) pa_nil)))))) pa_nil)))))))))))))), ?_⟩
    -- great
    refine seqi ?_
    refine r_draw (m := 8) (σ := [some (.ref f), none, none, none, none, none, none, none, none, none]) (ev_var (i := 0) rfl) ev_c fd (by decide) (by decide) (by omega) fun r1 H1 _ _ k1 fd1 => ?_
    refine ⟨rfl, ?_⟩
    dsimp only [gName]
    generalize decide (V.int r1 = V.int 0) = gr
    -- many, wide
    refine seqi ?_
    refine r_pick (σ := [some (.ref f), some (.bl gr), none, none, none, none, none, none, none, none]) (i := 0) rfl fd1 (by omega) fun many H2 hmany k2 fd2 => ?_
    refine r_pick (σ := [some (.ref f), some (.bl gr), none, none, none, none, none, none, none, none]) (i := 0) rfl fd2 (by omega) fun wide H3 hwide k3 fd3 => ?_
    refine ⟨by show (2 : Nat) ≤ sizeLine; decide, fun p3 hp3 => ?_⟩
    refine ⟨p3, _, rfl, sqT_of upd_same, rfl, _, _, rfl, _, _, rfl, rfl, ?_⟩
    have s3 := Same.new (o := .tup [.int many, .int wide]) hp3
    have k3 := ((k1.trans k2).trans k3).trans (.of_same s3)
    have fd3 := fd3.sm s3
    change tSeq _ _ _ _ (upd H3 p3 (.tup [.int many, .int wide]))
    generalize upd H3 p3 (.tup [.int many, .int wide]) = H4 at *
    -- most
    refine seqi ?_
    refine r_pick (σ := [some (.ref f), some (.bl gr), some (.int many), some (.int wide), none, none, none, none, none, none]) (i := 0) rfl fd3 (by omega) fun most H5 hmost k5 fd5 => ?_
    dsimp only [gName]
    have k5 := k3.trans k5
    -- names
    refine seqi ?_
    refine ⟨_, rfl, f, l, _, rfl, fd5, by omega, fun v6 H6 L zs ev k6 fd6 hL0 hL znd zl => ?_⟩
    subst ev
    have k6 := k5.trans k6
    have cnt0 : ∃ c : Int, 2 ≤ c ∧ c ≤ 9 ∧ EvV (tIf (tB (tVar 1)) (tC (.int 9)) (tVar 2)) [some (.ref f), some (.bl gr), some (.int many), some (.int wide), some (.int most), none, none, none, none, none] H6 (.int c) := by
      cases gr with
      | true => exact ⟨9, by decide, by decide, ep_if (b := true) (et_B (ev_var (i := 1) rfl)) (fun _ => ev_c) (fun e => by cases e)⟩
      | false => exact ⟨many, by omega, by omega, ep_if (b := false) (et_B (ev_var (i := 1) rfl)) (fun e => by cases e) (fun _ => ev_var (i := 2) rfl)⟩
    obtain ⟨c, c2, c9, hc⟩ := cnt0
    refine hc H6 (.refl _) _ fun v7 H7 s7 e7 => ⟨c, e7, ?_⟩
    refine ⟨L, _, rfl, sqL_of (s7 _ _ hL), fun p8 hp8 => ?_⟩
    rw [cutV_pre (by omega), ← List.map_take]
    have s8 := Same.new (o := .lst ((zs.take c.toNat).map V.str)) hp8
    have k8 := k6.trans (.of_same (s7.trans s8))
    have fd8 := fd6.sm (s7.trans s8)
    have lfN : LF K (upd H7 p8 (.lst ((zs.take c.toNat).map V.str))) (.ref p8) (txs (zs.take c.toNat)) := ⟨p8, _, rfl, sqL_of upd_same, FzA.strs _⟩
    have nnd : (zs.take c.toNat).Nodup := znd.sublist (List.take_sublist _ _)
    have nlen : (zs.take c.toNat).length = c.toNat := by rw [List.length_take, zl]; omega
    change tSeq _ _ _ _ (upd H7 p8 (.lst ((zs.take c.toNat).map V.str)))
    generalize upd H7 p8 (.lst ((zs.take c.toNat).map V.str)) = H8 at *
    generalize zs.take c.toNat = names at *
    -- wide, most
    refine q_ifMid (fun σ' H' => ∃ wide most : Int, σ' = [some (.ref f), some (.bl gr), some (.int many), some (.int wide), some (.int most), some (.ref p8), none, none, none, none] ∧ 1 ≤ wide ∧ wide ≤ 100 ∧ 1 ≤ most ∧ most ≤ 60 ∧ Same H8 H') (et_B (ev_var (i := 1) rfl)) (fun hb H9 s9 nx hnx => ?_) (fun hb H9 s9 => ⟨wide, most, rfl, by omega, by omega, by omega, by omega, s9⟩) fun σ' H9 ⟨wide, most, es, w0, w1, m0, m1, s9⟩ => ?_
    · exact ⟨by decide, fun p9 hp9 => ⟨p9, _, rfl, sqT_of upd_same, rfl, _, _, rfl, _, _, rfl, rfl, hnx _ _ ⟨100, 60, rfl, by decide, by decide, by decide, by decide, s9.trans (Same.new hp9)⟩⟩⟩
    · subst es
      have k9 := k8.trans (.of_same s9)
      have fd9 := fd8.sm s9
      have lf9 := lfN.sm s9
      -- book
      refine seqi ?_
      have bookk : ∀ {Q : VK} (kk : ∀ v' H' ps, Kp f H H' → FeedAt H' f l (N + 760) → Fz H' v' (.tup ((sortP (dedupP ps)).map Page.key)) → ps.length ≤ 40 → (∀ p ∈ ps, BpOk p) → (∃ d a h, Page.house d a h ∈ ps) → Q v' H'),
          tCall (spBook K) [] E0 (tCons (tVar 0) (tCons (tVar 5) (tCons (tIf (tB (tVar 1)) (tC (.int 16)) (tOp (rI0 fun i j => .int (i + j)) (tC (.int 3)) (tCall spDraw [] E0 (tCons (tVar 0) (tCons (tC (.int 9)) tNil))))) (tCons (tVar 3) tNil)))) [some (.ref f), some (.bl gr), some (.int many), some (.int wide), some (.int most), some (.ref p8), none, none, none, none] H9 Q := fun kk => by
        refine ⟨_, rfl, _, rfl, ?_⟩
        have tb : EvT (tB (tVar 1)) [some (.ref f), some (.bl gr), some (.int many), some (.int wide), some (.int most), some (.ref p8), none, none, none, none] H9 gr := et_B (ev_var (i := 1) rfl)
        dsimp only [tCons, tIf]
        refine tb H9 (.refl _) _ fun H10 s10 => ?_
        have k10 := k9.trans (.of_same s10)
        have fd10 := fd9.sm s10
        cases gr with
        | true =>
          refine ⟨_, rfl, f, l, _, _, names, 16, wide, rfl, fd10, by omega, lf9.sm s10, nnd, by omega, by omega, by decide, by decide, by omega, by omega, fun v' H' ps kb fb fv h1 h2 h3 => kk v' H' ps (k10.trans kb) (fb.mono (by omega)) fv h1 h2 h3⟩
        | false =>
          refine r_draw (m := 9) (σ := [some (.ref f), some (.bl false), some (.int many), some (.int wide), some (.int most), some (.ref p8), none, none, none, none]) (ev_var (i := 0) rfl) ev_c fd10 (by decide) (by decide) (by omega) fun r11 H11 d0 d1 k11 fd11 => ?_
          refine ⟨3, r11, rfl, rfl, _, rfl, f, l, _, _, names, 3 + r11, wide, rfl, fd11, by omega, (lf9.sm s10).kp fd10 k11, nnd, by omega, by omega, by omega, by omega, by omega, by omega, fun v' H' ps kb fb fv h1 h2 h3 => kk v' H' ps ((k10.trans k11).trans kb) (fb.mono (by omega)) fv h1 h2 h3⟩
      refine bookk fun vB H10 ps k10 fd10 fB hps ops hhs => ?_
      dsimp only [gName]
      refine q_ifMid (fun σ' H' => ∃ vB bk, σ' = [some (.ref f), some (.bl gr), some (.int many), some (.int wide), some (.int most), some (.ref p8), some vB, none, none, none] ∧ Same H10 H' ∧ Fz H' vB (.tup (bk.map Page.key)) ∧ CaseBook bk) (et_B (ev_var (i := 1) rfl)) (fun hb H11 s11 nx hnx => ?_) (fun hb H11 s11 => ⟨vB, _, rfl, s11, fB.sm s11, ps, hps, ops, hhs, .inl rfl⟩) fun σ' H11 ⟨vB, bk, es, s11, fB, cb⟩ => ?_
      · have lc := el_lcT (K := K) (σ := [some (.ref f), some (.bl gr), some (.int many), some (.int wide), some (.int most), some (.ref p8), some vB, none, none, none]) (H := H11) (tl := tVar 6) (vs := [7]) (j := 7) (tt := tTest (tOp rNe (tOp (rIxT K) (tVar 7) (tC (.int 0))) (tC (.str "part")))) (te := tVar 7) (js := (sortP (dedupP ps)).map Page.key) (fun k => !decide ((pageOf k).kix = 1)) id (ef_var rfl (fB.sm s11)) (by
            rw [List.length_map]
            unfold sortP
            rw [List.length_mergeSort]
            have := dedup_len ps
            omega) (fun _ => rfl) (fun x k H12 hk s12 fx => by
              obtain ⟨pg, _, rfl⟩ := List.mem_map.mp hk
              rw [pageOf_key]
              refine (et_test (ev_neS (ev_of_str (pg_ix (K := K) (i := 7) (n := 0) (pg := pg) rfl fx rfl)) ev_c)).of ?_
              rw [kind_dec pg 1 "part" rfl]) (fun x k H12 hk s12 fx _ => ef_var rfl fx)
        refine s_asg (P := fun v H => Fz H v (.tup (((sortP (dedupP ps)).filter fun p => !decide (p.kix = 1)).map Page.key))) (ef_tupleL (lc.imp fun v H _ h => ?_)) fun v12 H12 s12 f12 => hnx _ _ ⟨v12, _, rfl, s11.trans s12, f12, ps, hps, ops, hhs, .inr rfl⟩
        have h := h.ln.lf (K := K)
        rw [List.map_id] at h
        have e : ((sortP (dedupP ps)).map Page.key).filter (fun k => !decide ((pageOf k).kix = 1)) = ((sortP (dedupP ps)).filter fun p => !decide (p.kix = 1)).map Page.key := by
          rw [List.filter_map]
          congr 1
          refine List.filter_congr fun d _ => ?_
          show (!decide ((pageOf d.key).kix = 1)) = _
          rw [pageOf_key]
        rw [e] at h
        exact h
      · subst es
        have k11 := k10.trans (.of_same s11)
        have fd11 := fd10.sm s11
        obtain ⟨bne, bok, blen⟩ := case_ne cb
        -- terms
        refine seqi ?_
        refine r_draw (m := most) (σ := [some (.ref f), some (.bl gr), some (.int many), some (.int wide), some (.int most), some (.ref p8), some vB, none, none, none]) (ev_var (i := 0) rfl) (ev_var (i := 4) rfl) fd11 (by omega) (by omega) (by omega) fun t1 H12 a0 a1 k12 fd12 => ?_
        refine ⟨1, t1, rfl, rfl, ?_⟩
        refine r_draw (m := most) (σ := [some (.ref f), some (.bl gr), some (.int many), some (.int wide), some (.int most), some (.ref p8), some vB, none, none, none]) (ev_var (i := 0) rfl) (ev_var (i := 4) rfl) fd12 (by omega) (by omega) (by omega) fun t2 H13 b0 b1 k13 fd13 => ?_
        refine ⟨1, t2, rfl, rfl, ?_⟩
        refine ⟨by show (2 : Nat) ≤ sizeLine; decide, fun p14 hp14 => ?_⟩
        dsimp only [gName]
        have s14 := Same.new (o := .tup [.int (1 + t1), .int (1 + t2)]) hp14
        have fB14 := ((fB.tk (fd11.tk k12)).tk (fd12.tk k13)).sm s14
        have k14 := ((k11.trans k12).trans k13).trans (.of_same s14)
        have fd14 := fd13.sm s14
        have fT14 : TermsF (upd H13 p14 (.tup [.int (1 + t1), .int (1 + t2)])) (.ref p14) (1 + t1, 1 + t2) := .tup upd_same (.cons (.int _) (.one (.int _)))
        generalize upd H13 p14 (.tup [.int (1 + t1), .int (1 + t2)]) = H14 at *
        -- the days
        refine ⟨_, rfl, _, rfl, ?_⟩
        obtain ⟨pg0, br, ebk⟩ := List.exists_cons_of_ne_nil bne
        have ok0 := bok pg0 (by rw [ebk]; exact List.mem_cons_self)
        refine ⟨3, rfl, by decide, by decide, fun L2 hL2 => ?_⟩
        have nLl : L2 ≠ l := fun z => fd14.ne.2 (z ▸ hL2)
        have nLf : L2 ≠ f := fun z => fd14.ne.1 (z ▸ hL2)
        have hL0' : H L2 = none := k14.live _ hL2
        refine lc_range (lo := 0) (n := 3) (fun i H' => Kp f H H' ∧ TK H14 H' ∧ FeedAt H' f l (N + 770 + i) ∧ ∃ ds : List Int, H' L2 = some (.lst (ds.map V.int)) ∧ ds.length = i ∧ ∀ d ∈ ds, 0 ≤ d ∧ d ≤ 30000) ⟨k14.trans (.of_same (Same.new hL2)), .of_same (Same.new hL2), (fd14.sm (Same.new hL2)).mono (by omega), [], upd_same, rfl, fun d h => by cases h⟩ (fun i H15 hi ⟨k15, t15, fd15, ds, hds, lds, ods⟩ => ?_) (fun H15 ⟨k15, t15, fd15, ds, hds, lds, ods⟩ => ?_)
        · refine ⟨rfl, ?_⟩
          have g0 : EvV (tOp (rIxT K) (tOp (rIxT K) (tVar 6) (tC (.int 0))) (tC (.int 1))) [some (.ref f), some (.bl gr), some (.int many), some (.int wide), some (.int most), some (.ref p8), some vB, none, some (.ref p14), some (.int (0 + (i : Int)))] H15 (.int pg0.day) := ev_of_int (ef_ix (ks := pg0.items) (ef_ix (k := pg0.key) (ef_var (i := 6) rfl (fB14.tk t15)) ev_c (atI_of (n := 0) (by rw [ebk] <;> rfl))) ev_c (atI_of (n := 1) rfl))
          refine g0 H15 (.refl _) _ fun v16 H16 s16 e16 => ?_
          subst e16
          have fd16 := fd15.sm s16
          refine r_draw (m := wide + 9) (σ := [some (.ref f), some (.bl gr), some (.int many), some (.int wide), some (.int most), some (.ref p8), some vB, none, some (.ref p14), some (.int (0 + (i : Int)))]) (ev_var (i := 0) rfl) (ev_I0 (g := fun i j => .int (i + j)) (ev_var (i := 3) rfl) (ev_c (v := .int 9))) fd16 (by omega) (by omega) (by omega) fun r17 H17 c0 c1 k17 fd17 => ?_
          refine ⟨pg0.day, r17, rfl, rfl, ?_⟩
          have hL17 := k17.keep _ _ (s16 _ _ hds) nLf
          have t18 : TK H17 (upd H17 L2 (.lst (ds.map V.int ++ [.int (pg0.day + r17)]))) := TK.upd fun xs z => by rw [hL17] at z; cases z
          refine ⟨_, hL17, by rw [List.length_map, lds]; exact Nat.lt_of_lt_of_le hi (by decide), ((k15.trans (.of_same s16)).trans k17).own hL0', ((t15.trans (.of_same s16)).trans (fd16.tk k17)).trans t18, ?_, ds ++ [pg0.day + r17], by rw [upd_same, List.map_append] <;> rfl, by simp [lds], fun d hd => ?_⟩
          · rw [← Nat.add_assoc]
            exact fd17.oth nLf nLl
          · rcases List.mem_append.mp hd with h | h
            · exact ods d h
            · rw [List.mem_singleton] at h
              have h1 := ok0.2.1
              have h2 := ok0.2.2
              omega
        · refine ⟨by show (3 : Nat) ≤ sizeLine; decide, fun p18 hp18 => ?_⟩
          have s18 := Same.new (o := .tup [vB, .ref p14, .ref L2]) hp18
          exact q p18 _ vB (.ref p14) L2 bk (1 + t1, 1 + t2) ds (k15.trans (.of_same s18)) ((fd15.sm s18).mono (by omega)) upd_same (s18 _ _ hds) lds ((fB14.tk t15).sm s18) ((fT14.tk t15).sm s18) cb bne (by refine ⟨?_, ?_, ?_, ?_⟩ <;> (dsimp only) <;> omega) ods
end
end K34
namespace K34
open PySem PySem.Spec L2

/-! ### the plain law: what the walk keeps -/
abbrev Has {α : Type} (l : List (Str × α)) (x : Str) : Prop := (aget l x).isSome = true
theorem has_put {α : Type} {l : List (Str × α)} {x y : Str} {a : α} : Has (aput l x a) y ↔ y = x ∨ Has l y := by
  unfold Has
  rw [aget_put]
  by_cases h : y = x
  · simp [h]
  · simp [h]
theorem has_drop {α : Type} {l : List (Str × α)} {x y : Str} : Has (adrop l x) y ↔ y ≠ x ∧ Has l y := by
  unfold Has
  rw [aget_drop]
  by_cases h : y = x
  · simp [h]
  · simp [h]
theorem behind_snoc (pre : List Page) (p : Page) : behind (pre ++ [p]) = (behind pre).meet p := by
  unfold behind
  rw [List.foldl_append] <;> rfl
/-- pages that give a name -/
def nameOf : Page → List Str
  | .house _ a _ => [a]
  | .part _ _ b _ => [b]
  | _ => []
def NL (qs : List Page) : List Str := qs.flatMap nameOf
def isGo : Page → Bool
  | .going _ _ _ _ => true
  | _ => false
def GL (qs : List Page) : List Page := qs.filter isGo
theorem nl_gl (qs : List Page) : (NL qs).length + (GL qs).length ≤ qs.length := by
  induction qs with
  | nil => exact Nat.le_refl _
  | cons p qs ih =>
    have h : (nameOf p).length + (if isGo p then 1 else 0) ≤ 1 := by cases p <;> simp [nameOf, isGo]
    have h2 : (GL (p :: qs)).length = (GL qs).length + (if isGo p then 1 else 0) := by
      unfold GL
      rw [List.filter_cons]
      split <;> simp
    have h3 : (NL (p :: qs)).length = (nameOf p).length + (NL qs).length := by
      unfold NL
      rw [List.flatMap_cons, List.length_append]
    rw [h2, h3, List.length_cons]
    omega
theorem snoc_ind {P : List Page → Prop} (h0 : P []) (h1 : ∀ l p, P l → P (l ++ [p])) (l : List Page) : P l := by
  have key : ∀ l : List Page, P l.reverse := by
    intro l
    induction l with
    | nil => exact h0
    | cons a l ih =>
      rw [List.reverse_cons]
      exact h1 _ _ ih
  have := key l.reverse
  rwa [List.reverse_reverse] at this
theorem has_nl {pre : List Page} {x : Str} (h : Has (behind pre).homes x) : x ∈ NL pre := by
  have go : ∀ (pre : List Page), (∀ x, Has (behind pre).homes x → x ∈ NL pre) := by
    refine snoc_ind (fun x h => by cases h) fun pre p ih => ?_
    · intro x h
      have e : NL (pre ++ [p]) = NL pre ++ nameOf p := by simp [NL]
      rw [e, List.mem_append]
      rw [behind_snoc] at h
      unfold HS.meet at h
      split at h
      · cases p with
        | house d a hh =>
          rcases has_put.mp h with h | h
          · exact .inr (by simp [nameOf, h])
          · exact .inl (ih x h)
        | part d a b hh =>
          rcases has_put.mp h with h | h
          · exact .inr (by simp [nameOf, h])
          · exact .inl (ih x h)
        | join d a b => exact .inl (ih x (has_drop.mp h).2)
        | home d a hh =>
          rename_i hc
          rcases has_put.mp h with h | h
          · exact .inl (ih x (h ▸ hc))
          · exact .inl (ih x h)
        | mourn d a n => exact .inl (ih x h)
        | ahead d a b => exact .inl (ih x h)
        | going v d a b => exact .inl (ih x h)
      · exact .inl (ih x h)
  exact go pre x h
/-- the keys of falls -/
abbrev Keys (f : Falls) : List Due := f.map (·.1)
theorem mem_keys_put {f : Falls} {d e : Due} {l : List Int} : e ∈ Keys (aput f d l) ↔ e = d ∨ e ∈ Keys f := by
  unfold Keys
  rw [← aget_some, ← aget_some, aget_put]
  by_cases h : e = d
  · simp [h]
  · simp [h]
theorem mem_keys_drop {f : Falls} {d e : Due} : e ∈ Keys (adrop f d) ↔ e ≠ d ∧ e ∈ Keys f := by
  unfold Keys
  rw [← aget_some, ← aget_some, aget_drop]
  by_cases h : e = d
  · simp [h]
  · simp [h]
/-- what holds behind the pages pre -/
structure J (pre : List Page) (s : WS) : Prop where
  stand : ∀ d ∈ Keys s.falls, Has (behind pre).homes d.ower ∧ Has (behind pre).homes d.owed
  homes : ∀ x, Has (behind pre).homes x → Has s.homes x
  so : ∀ d ∈ Keys s.falls, (aget s.sorts d.page).isSome = true
  nd : (Keys s.falls).Nodup
  inb : ∀ d ∈ Keys s.falls, d.page ∈ GL pre
  lens : ∀ e ∈ s.falls, e.2.length ≤ 60
theorem gl_snoc {pre : List Page} {p q : Page} (h : q ∈ GL pre) : q ∈ GL (pre ++ [p]) := by
  unfold GL at h ⊢
  rw [List.filter_append]
  exact List.mem_append_left _ h
/-- a page that leaves who stands -/
theorem J.keep {pre : List Page} {s : WS} {p : Page} (j : J pre s) (h : (behind (pre ++ [p])).homes = (behind pre).homes) : J (pre ++ [p]) s :=
  ⟨fun d hd => by rw [h]; exact j.stand d hd, fun x hx => j.homes x (by rw [h] at hx; exact hx), j.so, j.nd, fun d hd => gl_snoc (j.inb d hd), j.lens⟩
theorem termOf_le {t : Int × Int} (ht : t.1 ≤ 60 ∧ t.2 ≤ 60) (b : Bool) : termOf t b ≤ 60 := by
  unfold termOf
  split
  · exact ht.1
  · exact ht.2
theorem fall_keys (s : WS) (t : Int × Int) (X : Int) : Keys (s.fall t X).falls = Keys s.falls := by
  show (s.falls.map (fallE s t X)).map (·.1) = s.falls.map (·.1)
  rw [List.map_map]
  exact List.map_congr_left fun e _ => rfl
theorem J.fall {pre : List Page} {s : WS} {t : Int × Int} {X : Int} (ht : t.1 ≤ 60 ∧ t.2 ≤ 60) (j : J pre s) : J pre (s.fall t X) := by
  have k := fall_keys s t X
  refine ⟨fun d hd => j.stand d (k ▸ hd), j.homes, fun d hd => j.so d (k ▸ hd), k.symm ▸ j.nd, fun d hd => j.inb d (k ▸ hd), fun e he => ?_⟩
  obtain ⟨e0, h0, rfl⟩ := List.mem_map.mp he
  show (if fallIf s t X e0 then e0.2 ++ [X] else e0.2).length ≤ 60
  split
  · rename_i hf
    unfold fallIf at hf
    rw [Bool.and_eq_true] at hf
    have h1 := of_decide_eq_true hf.1
    have h2 := termOf_le ht ((aget s.sorts e0.1.page).getD false)
    simp only [List.length_append, List.length_cons, List.length_nil]
    omega
  · exact j.lens e0 h0
theorem mem_put {f : Falls} {d : Due} {l : List Int} {e : Due × List Int} (h : e ∈ aput f d l) : e.2 = l ∨ e ∈ f := by
  by_cases hd : d ∈ f.map (·.1)
  · rw [aput_old hd] at h
    obtain ⟨e0, h0, rfl⟩ := List.mem_map.mp h
    split
    · exact .inl rfl
    · exact .inr h0
  · rw [aput_new hd] at h
    rcases List.mem_append.mp h with h | h
    · exact .inr h
    · rw [List.mem_singleton] at h
      exact .inl (by rw [h])
theorem aget_len {f : Falls} {d : Due} (h : ∀ e ∈ f, e.2.length ≤ 60) : ((aget f d).getD []).length ≤ 60 := by
  cases e : aget f d with
  | none => exact Nat.zero_le _
  | some l => exact h _ (aget_mem e)
/-- what every due's ower, owed, page is like -/
def KP (Q : Due → Prop) (f : Falls) : Prop := (∀ d ∈ Keys f, Q d) ∧ (Keys f).Nodup ∧ ∀ e ∈ f, e.2.length ≤ 60
theorem KP.put {Q : Due → Prop} {f : Falls} {d : Due} {l : List Int} (h : KP Q f) (q : Q d) (hl : l.length ≤ 60) : KP Q (aput f d l) :=
  ⟨fun e he => (mem_keys_put.mp he).elim (fun z => z ▸ q) (h.1 e), aput_nodup h.2.1, fun e he => (mem_put he).elim (fun z => by rw [z]; exact hl) (h.2.2 e)⟩
theorem KP.drop {Q : Due → Prop} {f : Falls} {d : Due} (h : KP Q f) : KP Q (adrop f d) :=
  ⟨fun e he => h.1 e (mem_keys_drop.mp he).2, adrop_nodup h.2.1, fun e he => h.2.2 e (List.mem_filter.mp he).1⟩
theorem KP.imp {Q R : Due → Prop} {f : Falls} (h : KP Q f) (g : ∀ d, Q d → R d) : KP R f := ⟨fun d hd => g d (h.1 d hd), h.2⟩
theorem KP.drops {Q : Due → Prop} (l : List Due) {f : Falls} (h : KP Q f) : KP Q (l.foldl adrop f) := by
  induction l generalizing f with
  | nil => exact h
  | cons d l ih =>
    rw [List.foldl_cons]
    exact ih h.drop
theorem KP.parts {Q : Due → Prop} {name fresh : Str} (hq : ∀ d, Q d → Q ⟨fresh, d.owed, d.page⟩) (l : List Due) (hl : ∀ d ∈ l, Q d) {f : Falls} (h : KP Q f) : KP Q (l.foldl (partStep name fresh) f) := by
  induction l generalizing f with
  | nil => exact h
  | cons d l ih =>
    rw [List.foldl_cons]
    refine ih (fun d hd => hl d (List.mem_cons_of_mem _ hd)) ?_
    unfold partStep
    split
    · exact h.put (hq d (hl d List.mem_cons_self)) (aget_len h.2.2)
    · exact h
theorem KP.lay {Q : Due → Prop} {f : Falls} {d : Due} {l : List Int} (h : KP Q f) (q : Q d) (hl : l.length ≤ 60) : KP Q (layF f d l) := by
  unfold layF
  split
  · exact h.put q hl
  · split
    · exact h
    · exact h.put q hl
/-- the joining: what was there, unturned, and what is turned -/
theorem KP.joins {Q R : Due → Prop} {name gone : Str} (h1 : ∀ d, Q d → ¬ (gone = d.ower ∨ gone = d.owed) → R d) (h2 : ∀ d, Q d → R ⟨ren name gone d.ower, ren name gone d.owed, d.page⟩) (l : List Due) (nd : l.Nodup) (hl : ∀ d ∈ l, Q d) {f : Falls} (h : KP (fun d => d ∈ l ∨ R d) f) : KP R (l.foldl (joinStep name gone) f) := by
  induction l generalizing f with
  | nil => exact h.imp fun d hd => hd.elim (fun z => by cases z) id
  | cons d l ih =>
    rw [List.foldl_cons]
    rw [List.nodup_cons] at nd
    refine ih nd.2 (fun d hd => hl d (List.mem_cons_of_mem _ hd)) ?_
    have qd := hl d List.mem_cons_self
    unfold joinStep
    split
    · have hdrop : KP (fun e => e ∈ l ∨ R e) (adrop f d) := by
        refine ⟨fun e he => ?_, (h.drop (d := d)).2⟩
        have he := mem_keys_drop.mp he
        rcases h.1 e he.2 with z | z
        · rcases List.mem_cons.mp z with y | y
          · exact absurd y he.1
          · exact .inl y
        · exact .inr z
      split
      · exact hdrop
      · exact hdrop.lay (.inr (h2 d qd)) (aget_len h.2.2)
    · rename_i hn
      refine h.imp fun e he => ?_
      rcases he with z | z
      · rcases List.mem_cons.mp z with y | y
        · exact .inr (y ▸ h1 d qd hn)
        · exact .inl y
      · exact .inr z
def QD (pre : List Page) (s : WS) (d : Due) : Prop := (Has (behind pre).homes d.ower ∧ Has (behind pre).homes d.owed) ∧ (aget s.sorts d.page).isSome = true ∧ d.page ∈ GL pre
theorem J.kp {pre : List Page} {s : WS} (j : J pre s) : KP (QD pre s) s.falls := ⟨fun d hd => ⟨j.stand d hd, j.so d hd, j.inb d hd⟩, j.nd, j.lens⟩
theorem KP.j {pre : List Page} {s : WS} (k : KP (QD pre s) s.falls) (h : ∀ x, Has (behind pre).homes x → Has s.homes x) : J pre s := ⟨fun d hd => (k.1 d hd).1, h, fun d hd => (k.1 d hd).2.1, k.2.1, fun d hd => (k.1 d hd).2.2, k.2.2⟩
theorem J.put {pre : List Page} {s : WS} {p : Page} {lost : List Page} (j : J pre s) (ok : PgOk p) (hl : p ∈ lost ↔ ¬ (behind pre).can p = true) : J (pre ++ [p]) (s.put lost p).1 := by
  by_cases hp : p ∈ lost
  · have e : s.put lost p = (s, mIdle) := by
      unfold WS.put
      rw [if_pos hp]
    rw [e]
    refine j.keep ?_
    rw [behind_snoc]
    unfold HS.meet
    rw [if_neg (hl.mp hp)]
  · have hc : (behind pre).can p = true := by
      cases h : (behind pre).can p with
      | true => rfl
      | false => exact absurd (hl.mpr (by rw [h]; decide)) hp
    have hb : behind (pre ++ [p]) = (behind pre).act p := by
      rw [behind_snoc]
      unfold HS.meet
      rw [if_pos hc]
    unfold WS.put
    rw [if_neg hp]
    have k := j.kp
    cases p with
    | going v d a b =>
      have hc : Has (behind pre).homes a ∧ Has (behind pre).homes b := by
        have : (((aget (behind pre).homes a).isSome && (aget (behind pre).homes b).isSome)) = true := hc
        exact Bool.and_eq_true_iff.mp this
      have hh : (behind (pre ++ [Page.going v d a b])).homes = (behind pre).homes := by rw [hb] <;> rfl
      show J _ (s.go v d a b).1
      unfold WS.go
      split
      · refine KP.j ?_ (fun x hx => j.homes x (by rw [hh] at hx; exact hx))
        show KP _ (aput s.falls ⟨b, a, Page.going v d a b⟩ [])
        refine (k.imp (R := QD (pre ++ [Page.going v d a b]) { s with sorts := aput s.sorts (.going v d a b) (s.isMet v d a b), falls := aput s.falls ⟨b, a, .going v d a b⟩ [] }) fun e he => ⟨by rw [hh]; exact he.1, ?_, gl_snoc he.2.2⟩).put ⟨by rw [hh]; exact ⟨hc.2, hc.1⟩, ?_, ?_⟩ (Nat.zero_le _)
        · show (aget (aput s.sorts _ _) e.page).isSome = true
          rw [aget_put]
          split
          · rfl
          · exact he.2.1
        · show (aget (aput s.sorts _ _) (Page.going v d a b)).isSome = true
          rw [aget_put, if_pos rfl] <;> rfl
        · unfold GL
          rw [List.filter_append]
          exact List.mem_append_right _ (by simp [isGo])
      · refine KP.j ((k.drops _).imp fun e he => ⟨by rw [hh]; exact he.1, he.2.1, gl_snoc he.2.2⟩) (fun x hx => j.homes x (by rw [hh] at hx; exact hx))
    | part d a b h =>
      have hc : Has (behind pre).homes a ∧ (!(aget (behind pre).parents b).isSome) = true := by
        have : (((aget (behind pre).homes a).isSome && !(aget (behind pre).parents b).isSome)) = true := hc
        exact Bool.and_eq_true_iff.mp this
      have hh : (behind (pre ++ [Page.part d a b h])).homes = aput (behind pre).homes b h := by rw [hb] <;> rfl
      refine KP.j (s := { s with falls := partF s.falls a b, homes := aput s.homes b h }) ?_ (fun x hx => ?_)
      · have k2 : KP (QD (pre ++ [Page.part d a b h]) { s with falls := partF s.falls a b, homes := aput s.homes b h }) s.falls := k.imp fun e he => ⟨by rw [hh]; exact ⟨has_put.mpr (.inr he.1.1), has_put.mpr (.inr he.1.2)⟩, he.2.1, gl_snoc he.2.2⟩
        exact KP.parts (fun e he => ⟨⟨by rw [hh]; exact has_put.mpr (.inl rfl), he.1.2⟩, he.2.1, he.2.2⟩) (s.falls.map (·.1)) (fun e he => k2.1 e he) k2
      · rw [hh] at hx
        exact has_put.mpr ((has_put.mp hx).imp id (j.homes x))
    | join d a b =>
      have hc : Has (behind pre).homes a ∧ Has (behind pre).homes b := by
        have : (((aget (behind pre).homes a).isSome && (aget (behind pre).homes b).isSome)) = true := hc
        exact Bool.and_eq_true_iff.mp this
      have hab : a ≠ b := ok d a b rfl
      have hh : (behind (pre ++ [Page.join d a b])).homes = adrop (behind pre).homes b := by rw [hb] <;> rfl
      have hren : ∀ x, Has (behind pre).homes x → Has (adrop (behind pre).homes b) (ren a b x) := fun x hx => by
        unfold ren
        split
        · exact has_drop.mpr ⟨hab, hc.1⟩
        · rename_i ne
          exact has_drop.mpr ⟨ne, hx⟩
      refine KP.j (s := { s with falls := joinF s.falls a b }) ?_ (fun x hx => ?_)
      · refine KP.joins (Q := QD pre s) (R := QD (pre ++ [Page.join d a b]) { s with falls := joinF s.falls a b }) (fun e he hn => ⟨?_, he.2.1, gl_snoc he.2.2⟩) (fun e he => ⟨?_, he.2.1, gl_snoc he.2.2⟩) (s.falls.map (·.1)) j.nd (fun e he => k.1 e he) (f := s.falls) ⟨fun e he => .inl he, k.2⟩
        · rw [hh]
          exact ⟨has_drop.mpr ⟨fun z => hn (.inl z.symm), he.1.1⟩, has_drop.mpr ⟨fun z => hn (.inr z.symm), he.1.2⟩⟩
        · rw [hh]
          exact ⟨hren _ he.1.1, hren _ he.1.2⟩
      · rw [hh] at hx
        exact j.homes x (has_drop.mp hx).2
    | house d a h =>
      have hh : (behind (pre ++ [Page.house d a h])).homes = aput (behind pre).homes a h := by rw [hb] <;> rfl
      refine KP.j (s := { s with homes := aput s.homes a h }) (k.imp fun e he => ⟨by rw [hh]; exact ⟨has_put.mpr (.inr he.1.1), has_put.mpr (.inr he.1.2)⟩, he.2.1, gl_snoc he.2.2⟩) (fun x hx => ?_)
      rw [hh] at hx
      exact has_put.mpr ((has_put.mp hx).imp id (j.homes x))
    | home d a h =>
      have hh : (behind (pre ++ [Page.home d a h])).homes = aput (behind pre).homes a h := by rw [hb] <;> rfl
      refine KP.j (s := { s with homes := aput s.homes a h }) (k.imp fun e he => ⟨by rw [hh]; exact ⟨has_put.mpr (.inr he.1.1), has_put.mpr (.inr he.1.2)⟩, he.2.1, gl_snoc he.2.2⟩) (fun x hx => ?_)
      rw [hh] at hx
      exact has_put.mpr ((has_put.mp hx).imp id (j.homes x))
    | mourn d a n =>
      have hh : (behind (pre ++ [Page.mourn d a n])).homes = (behind pre).homes := by rw [hb] <;> rfl
      have j2 := j.keep hh
      exact ⟨j2.stand, j2.homes, j2.so, j2.nd, j2.inb, j2.lens⟩
    | ahead d a b =>
      have hh : (behind (pre ++ [Page.ahead d a b])).homes = (behind pre).homes := by rw [hb] <;> rfl
      exact j.keep hh
theorem J.init : J [] ⟨[], [], [], []⟩ := ⟨fun d h => (by cases h), fun x h => (by cases h), fun d h => (by cases h), .nil, fun d h => (by cases h), fun e h => (by cases h)⟩
end K34
namespace K34
open PySem PySem.Spec L2

theorem split_uniq {α : Type} {p : α} : ∀ {a a' b b' : List α}, (a ++ p :: b).Nodup → a ++ p :: b = a' ++ p :: b' → a = a'
  | [], [], _, _, _, _ => rfl
  | [], x :: a', b, b', nd, e => by
    rw [List.nil_append, List.cons_append] at e
    injection e with e1 e2
    rw [List.nil_append, List.nodup_cons] at nd
    exact absurd (e2 ▸ List.mem_append_right _ List.mem_cons_self) nd.1
  | x :: a, [], b, b', nd, e => by
    rw [List.nil_append, List.cons_append] at e
    injection e with e1 e2
    rw [List.cons_append, List.nodup_cons] at nd
    exact absurd (e1 ▸ List.mem_append_right _ List.mem_cons_self) nd.1
  | x :: a, y :: a', b, b', nd, e => by
    rw [List.cons_append, List.cons_append] at e
    injection e with e1 e2
    rw [List.cons_append, List.nodup_cons] at nd
    rw [e1, split_uniq nd.2 e2]
theorem idle_mem (qs : List Page) : ∀ q, q ∈ (behind qs).idle ↔ ∃ pre post, qs = pre ++ q :: post ∧ ¬ (behind pre).can q = true := by
  refine snoc_ind (P := fun qs => ∀ q, q ∈ (behind qs).idle ↔ ∃ pre post, qs = pre ++ q :: post ∧ ¬ (behind pre).can q = true) (fun q => ⟨fun h => (by cases h), fun ⟨pre, post, e, _⟩ => (by cases pre <;> cases e)⟩) (fun qs p ih q => ?_) qs
  have snoc : (∃ pre post, qs ++ [p] = pre ++ q :: post ∧ ¬ (behind pre).can q = true) ↔ (∃ pre post, qs = pre ++ q :: post ∧ ¬ (behind pre).can q = true) ∨ (q = p ∧ ¬ (behind qs).can p = true) := by
    constructor
    · rintro ⟨pre, post, e, h⟩
      rcases List.eq_nil_or_concat post with hp | ⟨post', z, hp⟩
      · subst hp
        have := List.append_inj' e rfl
        obtain ⟨e1, e2⟩ := this
        injection e2 with e2
        subst e1 e2
        exact .inr ⟨rfl, h⟩
      · subst hp
        rw [List.concat_eq_append, ← List.cons_append, ← List.append_assoc] at e
        have := List.append_inj' e rfl
        exact .inl ⟨pre, post', this.1, h⟩
    · rintro (⟨pre, post, e, h⟩ | ⟨e, h⟩)
      · exact ⟨pre, post ++ [p], by rw [e]; simp, h⟩
      · subst e
        exact ⟨qs, [], rfl, h⟩
  rw [snoc, ← ih q, behind_snoc]
  unfold HS.meet
  split
  · rename_i hc
    have e : ((behind qs).act p).idle = (behind qs).idle := by cases p <;> rfl
    rw [e]
    constructor
    · exact fun h => .inl h
    · rintro (h | ⟨_, h⟩)
      · exact h
      · exact absurd hc h
  · rename_i hc
    show q ∈ (behind qs).idle ++ [p] ↔ _
    rw [List.mem_append, List.mem_singleton]
    constructor
    · rintro (h | h)
      · exact .inl h
      · exact .inr ⟨h, hc⟩
    · rintro (h | h)
      · exact .inl h
      · exact .inr h.1
theorem idle_at {qs pre post : List Page} {p : Page} (nd : qs.Nodup) (e : qs = pre ++ p :: post) : p ∈ (behind qs).idle ↔ ¬ (behind pre).can p = true := by
  rw [idle_mem]
  constructor
  · rintro ⟨pre', post', e', h⟩
    have := split_uniq (e ▸ nd) (e.symm.trans e')
    rw [this]
    exact h
  · exact fun h => ⟨pre, post, e, h⟩
theorem idle_sub (qs : List Page) : (behind qs).idle.Sublist qs := by
  refine snoc_ind (P := fun qs => (behind qs).idle.Sublist qs) (.slnil) (fun qs p ih => ?_) qs
  rw [behind_snoc]
  unfold HS.meet
  split
  · have e : ((behind qs).act p).idle = (behind qs).idle := by cases p <;> rfl
    rw [e]
    exact ih.trans (List.sublist_append_left _ _)
  · exact ih.append (.refl _)
theorem lo_succ {qs : List Page} (h : Sorted qs) (X : Int) : (qs.filter fun p => decide (p.day < X + 1)) = (qs.filter fun p => decide (p.day < X)) ++ onDay qs X := by
  induction qs with
  | nil => rfl
  | cons p qs ih =>
    have h := List.pairwise_cons.mp h
    have ih := ih h.2
    unfold onDay at ih ⊢
    rcases Int.lt_trichotomy p.day X with l | l | l
    · rw [List.filter_cons_of_pos (by simp; omega), List.filter_cons_of_pos (by simpa using l), List.filter_cons_of_neg (by simp; omega), ih] <;> rfl
    · have e : qs.filter (fun p => decide (p.day < X)) = [] := List.filter_eq_nil_iff.mpr fun a ha => by have := h.1 a ha; simp; omega
      rw [e, List.nil_append] at ih
      rw [List.filter_cons_of_pos (by simp; omega), List.filter_cons_of_neg (by simp; omega), List.filter_cons_of_pos (by simpa using l), ih, e] <;> rfl
    · have e : qs.filter (fun p => decide (p.day < X)) = [] := List.filter_eq_nil_iff.mpr fun a ha => by have := h.1 a ha; simp; omega
      have e2 : qs.filter (fun p => decide (p.day = X)) = [] := List.filter_eq_nil_iff.mpr fun a ha => by have := h.1 a ha; simp; omega
      rw [e, e2] at ih
      rw [List.filter_cons_of_neg (by simp; omega), List.filter_cons_of_neg (by simp; omega), List.filter_cons_of_neg (by simp; omega), ih, e, e2]
theorem nodup_len {α : Type} [DecidableEq α] : ∀ {l m : List α}, l.Nodup → (∀ x ∈ l, x ∈ m) → l.length ≤ m.length
  | [], _, _, _ => Nat.zero_le _
  | x :: l, m, nd, h => by
    rw [List.nodup_cons] at nd
    have hx := h x List.mem_cons_self
    have h2 : ∀ y ∈ l, y ∈ m.erase x := fun y hy => (List.mem_erase_of_ne (show y ≠ x from fun z => nd.1 (z ▸ hy))).mpr (h y (List.mem_cons_of_mem _ hy))
    have := nodup_len nd.2 h2
    rw [List.length_erase_of_mem hx] at this
    have : 0 < m.length := List.length_pos_of_mem hx
    rw [List.length_cons]
    omega
theorem hhg : ∀ h, h < 61 → ∀ g, g < 61 → h + g ≤ 60 → h * (h * g) ≤ 40000 := by decide +kernel
theorem J.len {pre : List Page} {s : WS} (j : J pre s) (hz : pre.length ≤ 60) : s.falls.length ≤ 40000 := by
  have h1 : (Keys s.falls).length ≤ ((NL pre).flatMap fun x => (NL pre).flatMap fun y => (GL pre).map fun p => (⟨x, y, p⟩ : Due)).length := nodup_len j.nd fun d hd => by
    obtain ⟨a, b⟩ := j.stand d hd
    rw [List.mem_flatMap]
    refine ⟨d.ower, has_nl a, ?_⟩
    rw [List.mem_flatMap]
    refine ⟨d.owed, has_nl b, ?_⟩
    exact List.mem_map.mpr ⟨d.page, j.inb d hd, rfl⟩
  have h2 : ((NL pre).flatMap fun x => (NL pre).flatMap fun y => (GL pre).map fun p => (⟨x, y, p⟩ : Due)).length = (NL pre).length * ((NL pre).length * (GL pre).length) := by
    have in1 : ∀ x, ((NL pre).flatMap fun y => (GL pre).map fun p => (⟨x, y, p⟩ : Due)).length = (NL pre).length * (GL pre).length := fun x => by
      generalize NL pre = A
      induction A with
      | nil => simp
      | cons a A ih => rw [List.flatMap_cons, List.length_append, ih, List.length_map, List.length_cons, Nat.succ_mul, Nat.add_comm]
    have go : ∀ A : List Str, (A.flatMap fun x => (NL pre).flatMap fun y => (GL pre).map fun p => (⟨x, y, p⟩ : Due)).length = A.length * ((NL pre).length * (GL pre).length) := by
      intro A
      induction A with
      | nil => simp
      | cons a A ih => rw [List.flatMap_cons, List.length_append, ih, in1, List.length_cons, Nat.succ_mul, Nat.add_comm]
    exact go _
  have h3 := nl_gl pre
  have h4 := hhg (NL pre).length (by omega) (GL pre).length (by omega) (by omega)
  unfold Keys at h1
  rw [List.length_map] at h1
  omega
/-- a book that can be walked -/
structure Good (bk : List Page) : Prop where
  sorted : Sorted bk
  nd : bk.Nodup
  len : bk.length ≤ 60
  ok : ∀ p ∈ bk, PgOk p
  lo : ∀ p ∈ bk, 0 ≤ p.day ∧ p.day ≤ 100000
theorem Good.sub {bk : List Page} (g : Good bk) {qs : List Page} (h : qs.Sublist bk) : Good qs :=
  ⟨g.sorted.sublist h, g.nd.sublist h, Nat.le_trans h.length_le g.len, fun p hp => g.ok p (h.subset hp), fun p hp => g.lo p (h.subset hp)⟩
theorem upTo_sub (bk : List Page) (X : Int) : (upTo bk X).Sublist bk := List.filter_sublist
theorem lo_first {qs : List Page} (h : Sorted qs) (last : Int) : (qs.filter fun p => decide (p.day < firstDay qs last)) = [] := by
  cases qs with
  | nil => rfl
  | cons p r =>
    have h2 := List.pairwise_cons.mp h
    refine List.filter_eq_nil_iff.mpr fun a ha => ?_
    have : p.day ≤ a.day := by
      rcases List.mem_cons.mp ha with h | h
      · rw [h]; exact Int.le_refl _
      · exact h2.1 a h
    show ¬ decide (a.day < p.day) = true
    simp
    omega
def loOf (qs : List Page) (X : Int) : List Page := qs.filter fun p => decide (p.day < X)
/-- the pages met at a stage of the walk -/
def preAt (qs : List Page) (first : Int) (i j : Nat) : List Page := loOf qs (first + i) ++ (onDay qs (first + i)).take j
theorem pre_split {qs : List Page} (h : Sorted qs) {first : Int} {i j : Nat} {p : Page} (e : (onDay qs (first + i))[j]? = some p) : ∃ post, qs = preAt qs first i j ++ p :: post := by
  have e1 := split_day h (first + i)
  have hj : j < (onDay qs (first + i)).length := (List.getElem?_eq_some_iff.mp e).1
  have e2 : onDay qs (first + i) = (onDay qs (first + i)).take j ++ p :: (onDay qs (first + i)).drop (j + 1) := by
    have : (onDay qs (first + i))[j] = p := (List.getElem?_eq_some_iff.mp e).2
    rw [← this, ← List.drop_eq_getElem_cons hj, List.take_append_drop]
  refine ⟨(onDay qs (first + i)).drop (j + 1) ++ qs.filter fun p => decide (first + i < p.day), ?_⟩
  unfold preAt loOf
  conv => lhs; rw [e1, e2]
  simp
theorem pre_sub {qs : List Page} (h : Sorted qs) (first : Int) (i j : Nat) : (preAt qs first i j).Sublist qs := by
  have e1 := split_day h (first + i)
  conv => rhs; rw [e1]
  unfold preAt loOf
  exact (List.Sublist.refl _).append ((List.take_sublist _ _).trans (List.sublist_append_left _ _))
theorem J.runs {qs : List Page} (g : Good qs) {t : Int × Int} (ht : t.1 ≤ 60 ∧ t.2 ≤ 60) {last : Int} (i : Nat) :
    J (loOf qs (firstDay qs last + i)) (runN (behind qs).idle t qs (firstDay qs last) i).1 ∧ ∀ j, j ≤ (onDay qs (firstDay qs last + i)).length → J (preAt qs (firstDay qs last) i j) (stAt (behind qs).idle t qs (firstDay qs last) i j).1 := by
  have step : ∀ i, J (loOf qs (firstDay qs last + (i : Nat))) (runN (behind qs).idle t qs (firstDay qs last) i).1 → ∀ j, j ≤ (onDay qs (firstDay qs last + i)).length → J (preAt qs (firstDay qs last) i j) (stAt (behind qs).idle t qs (firstDay qs last) i j).1 := by
    intro i h j
    induction j with
    | zero =>
      intro _
      unfold preAt stAt
      rw [List.take_zero, List.append_nil]
      exact h
    | succ j ih =>
      intro hj
      obtain ⟨p, hp⟩ : ∃ p, (onDay qs (firstDay qs last + i))[j]? = some p := ⟨_, List.getElem?_eq_getElem (by omega)⟩
      have ih := ih (by omega)
      obtain ⟨post, e⟩ := pre_split g.sorted hp
      have hpin : p ∈ qs := by
        rw [e]
        exact List.mem_append_right _ List.mem_cons_self
      have := ih.put (g.ok p hpin) (idle_at g.nd e)
      have e1 : preAt qs (firstDay qs last) i (j + 1) = preAt qs (firstDay qs last) i j ++ [p] := by
        unfold preAt
        rw [List.take_add_one, hp, List.append_assoc] <;> rfl
      have e2 : stAt (behind qs).idle t qs (firstDay qs last) i (j + 1) = putStep (behind qs).idle (stAt (behind qs).idle t qs (firstDay qs last) i j) p := by
        unfold stAt
        rw [List.take_add_one, hp, List.foldl_append] <;> rfl
      rw [e1, e2]
      exact this
  have base : J (loOf qs (firstDay qs last + (i : Nat))) (runN (behind qs).idle t qs (firstDay qs last) i).1 := by
    induction i with
    | zero =>
      have e : loOf qs (firstDay qs last + ((0 : Nat) : Int)) = [] := by
        rw [show firstDay qs last + ((0 : Nat) : Int) = firstDay qs last from by simp]
        exact lo_first g.sorted last
      rw [e]
      exact J.init
    | succ i ih =>
      have h := step i ih (onDay qs (firstDay qs last + i)).length (Nat.le_refl _)
      have e1 : loOf qs (firstDay qs last + ((i + 1 : Nat) : Int)) = preAt qs (firstDay qs last) i (onDay qs (firstDay qs last + i)).length := by
        unfold preAt
        rw [List.take_length, show firstDay qs last + ((i + 1 : Nat) : Int) = firstDay qs last + i + 1 from by omega]
        exact lo_succ g.sorted _
      rw [e1]
      have e2 : (runN (behind qs).idle t qs (firstDay qs last) (i + 1)).1 = (stAt (behind qs).idle t qs (firstDay qs last) i (onDay qs (firstDay qs last + i)).length).1.fall t (firstDay qs last + i) := by
        unfold stAt
        rw [List.take_length] <;> rfl
      rw [e2]
      exact h.fall ht
  exact ⟨base, step i base⟩
theorem J.fit {pre : List Page} {s : WS} (j : J pre s) (hz : pre.length ≤ 60) : Fit s := ⟨j.so, j.nd, j.len hz, fun e he => Nat.le_trans (j.lens e he) (by decide)⟩
theorem run_ok {qs : List Page} (g : Good qs) {t : Int × Int} (ht : t.1 ≤ 60 ∧ t.2 ≤ 60) (last : Int) (N : Nat) : RunOk (behind qs).idle t qs (firstDay qs last) N := fun i _ j hj => by
  have h := (J.runs g ht (last := last) i).2 j hj
  refine ⟨h.fit (Nat.le_trans (pre_sub g.sorted _ _ _).length_le g.len), fun p hp hl vv d x y e => ?_⟩
  obtain ⟨post, eq⟩ := pre_split g.sorted hp
  have hc : (behind (preAt qs (firstDay qs last) i j)).can p = true := by
    cases hh : (behind (preAt qs (firstDay qs last) i j)).can p with
    | true => rfl
    | false => exact absurd ((idle_at g.nd eq).mpr (by rw [hh]; decide)) hl
  subst e
  have : (((aget (behind (preAt qs (firstDay qs last) i j)).homes x).isSome && (aget (behind (preAt qs (firstDay qs last) i j)).homes y).isSome)) = true := hc
  exact h.homes y (Bool.and_eq_true_iff.mp this).2
theorem Good.bookOk {bk : List Page} (g : Good bk) {t : Int × Int} (ht : t.1 ≤ 60 ∧ t.2 ≤ 60) {last : Int} (hl : 0 ≤ last ∧ last ≤ 1000000) : BookOk bk t last := by
  have gq := g.sub (upTo_sub bk last)
  refine ⟨Nat.le_trans g.len (by decide), g.sorted, g.nd, gq.nd.sublist (idle_sub _), Nat.le_trans (idle_sub _).length_le (Nat.le_trans gq.len (by decide)), ⟨by omega, by omega⟩, fun p hp => ?_, run_ok gq ht last _⟩
  have := (g.lo p hp).1
  omega
end K34
namespace K34
open PySem PySem.Spec L2

theorem first_le (bk : List Page) (last : Int) : firstDay (upTo bk last) last ≤ last + 1 := by
  cases h : upTo bk last with
  | nil => exact Int.le_refl _
  | cons p r =>
    have : p ∈ upTo bk last := by rw [h]; exact List.mem_cons_self
    unfold upTo at this
    rw [List.mem_filter] at this
    have := of_decide_eq_true this.2
    show p.day ≤ last + 1
    omega
theorem walkEnd_J {bk : List Page} (g : Good bk) {t : Int × Int} (ht : t.1 ≤ 60 ∧ t.2 ≤ 60) (last : Int) : J (upTo bk last) (walkEnd bk t last).1 := by
  have h := (J.runs (g.sub (upTo_sub bk last)) ht (last := last) (last + 1 - firstDay (upTo bk last) last).toNat).1
  have e : loOf (upTo bk last) (firstDay (upTo bk last) last + ((last + 1 - firstDay (upTo bk last) last).toNat : Int)) = upTo bk last := by
    have := first_le bk last
    rw [show firstDay (upTo bk last) last + ((last + 1 - firstDay (upTo bk last) last).toNat : Int) = last + 1 from by omega]
    unfold loOf
    refine List.filter_eq_self.mpr fun p hp => ?_
    unfold upTo at hp
    rw [List.mem_filter] at hp
    have := of_decide_eq_true hp.2
    simp
    omega
  rw [e] at h
  exact h
theorem Good.duesOk {bk : List Page} (g : Good bk) {t : Int × Int} (ht : t.1 ≤ 60 ∧ t.2 ≤ 60) {last : Int} (hl : 0 ≤ last ∧ last ≤ 1000000) : DuesOk bk t last := by
  have j := walkEnd_J g ht last
  have gq := g.sub (upTo_sub bk last)
  exact ⟨g.bookOk ht hl, j.fit gq.len, fun e he => (upTo_sub bk last).subset (List.mem_filter.mp (j.inb e he)).1⟩
theorem upTo_all {bk : List Page} {X : Int} (h : ∀ p ∈ bk, p.day ≤ X) : upTo bk X = bk := List.filter_eq_self.mpr fun p hp => decide_eq_true (h p hp)
def later (s : WS) (t : Int × Int) (day : Int) : Nat → WS
  | 0 => s
  | k + 1 => (later s t day k).fall t (day + (k + 1 : Nat))
theorem first_any {bk : List Page} (h : bk ≠ []) (a b : Int) : firstDay bk a = firstDay bk b := by
  cases bk with
  | nil => exact absurd rfl h
  | cons p r => rfl
theorem walk_later {bk : List Page} (hne : bk ≠ []) {t : Int × Int} {day : Int} (h : ∀ p ∈ bk, p.day ≤ day) (k : Nat) : walkEnd bk t (day + k) = (later (walkEnd bk t day).1 t day k, (walkEnd bk t day).2) := by
  induction k with
  | zero => simp [later]
  | succ k ih =>
    have hk : ∀ p ∈ bk, p.day ≤ day + (k : Int) := fun p hp => by have := h p hp; omega
    have hk1 : ∀ p ∈ bk, p.day ≤ day + ((k + 1 : Nat) : Int) := fun p hp => by have := h p hp; omega
    have f1 := first_le bk (day + (k : Int))
    rw [upTo_all hk] at f1
    unfold walkEnd at ih ⊢
    rw [upTo_all hk] at ih
    rw [upTo_all hk1]
    have ef := first_any hne (day + ((k + 1 : Nat) : Int)) (day + (k : Int))
    rw [ef]
    have en : (day + ((k + 1 : Nat) : Int) + 1 - firstDay bk (day + (k : Int))).toNat = (day + (k : Int) + 1 - firstDay bk (day + (k : Int))).toNat + 1 := by omega
    rw [en]
    show dayRun _ _ _ (runN _ _ _ _ _) _ = _
    rw [ih]
    have ed : firstDay bk (day + (k : Int)) + ((day + (k : Int) + 1 - firstDay bk (day + (k : Int))).toNat : Int) = day + ((k + 1 : Nat) : Int) := by omega
    rw [ed]
    have eo : onDay bk (day + ((k + 1 : Nat) : Int)) = [] := List.filter_eq_nil_iff.mpr fun p hp => by have := h p hp; simp; omega
    unfold dayRun
    rw [eo] <;> rfl
/-- a due's falls, k days on -/
def growL (m : List (Str × List (Int × Int))) (e : Told) (term day : Int) : Nat → List Int
  | 0 => e.falls
  | k + 1 => if 0 < term - (growL m e term day k).length ∧ freeB m e (day + (k + 1 : Nat)) = true then growL m e term day k ++ [day + (k + 1 : Nat)] else growL m e term day k
theorem growL_succ (m : List (Str × List (Int × Int))) (e : Told) (term day : Int) (k : Nat) : growL m e term day (k + 1) = if 0 < term - (growL m e term day k).length ∧ freeB m e (day + (k + 1 : Nat)) = true then growL m e term day k ++ [day + (k + 1 : Nat)] else growL m e term day k := rfl
theorem later_same (s : WS) (t : Int × Int) (day : Int) (k : Nat) : (later s t day k).sorts = s.sorts ∧ (later s t day k).mourned = s.mourned ∧ (later s t day k).homes = s.homes := by
  induction k with
  | zero => exact ⟨rfl, rfl, rfl⟩
  | succ k ih => exact ih
theorem later_falls (s : WS) (t : Int × Int) (day : Int) (h : ∀ e ∈ s.falls, e.1.page.day ≤ day) (k : Nat) : (later s t day k).falls = s.falls.map fun e => (e.1, growL s.mourned (tell s e) (termOf t ((aget s.sorts e.1.page).getD false)) day k) := by
  induction k with
  | zero =>
    show s.falls = s.falls.map fun e => (e.1, e.2)
    simp
  | succ k ih =>
    show (later s t day k).falls.map (fallE (later s t day k) t (day + (k + 1 : Nat))) = _
    rw [ih, List.map_map]
    refine List.map_congr_left fun e he => ?_
    obtain ⟨e1, e2, e3⟩ := later_same s t day k
    show (e.1, if fallIf (later s t day k) t (day + (k + 1 : Nat)) (e.1, growL s.mourned (tell s e) (termOf t ((aget s.sorts e.1.page).getD false)) day k) then _ else _) = (e.1, _)
    congr 1
    unfold fallIf
    rw [e1, e2]
    have hd : decide (e.1.page.day < day + ((k + 1 : Nat) : Int)) = true := decide_eq_true (by have := h e he; omega)
    show (if (decide (0 < termOf t ((aget s.sorts e.1.page).getD false) - ((growL s.mourned (tell s e) (termOf t ((aget s.sorts e.1.page).getD false)) day k).length : Int)) && (decide (e.1.page.day < day + ((k + 1 : Nat) : Int)) && freeB s.mourned (tell s e) (day + ((k + 1 : Nat) : Int)))) = true then _ else _) = _
    rw [hd, Bool.true_and]
    show _ = growL s.mourned (tell s e) (termOf t ((aget s.sorts e.1.page).getD false)) day (k + 1)
    rw [growL_succ]
    by_cases h1 : 0 < termOf t ((aget s.sorts e.1.page).getD false) - ((growL s.mourned (tell s e) (termOf t ((aget s.sorts e.1.page).getD false)) day k).length : Int)
    · cases h2 : freeB s.mourned (tell s e) (day + ((k + 1 : Nat) : Int)) <;> simp [h1, h2]
    · simp [h1]
end K34
namespace K34
open PySem PySem.Spec L2

theorem growL_len (m : List (Str × List (Int × Int))) (e : Told) (term day : Int) (hl : (e.falls.length : Int) ≤ term) : ∀ k : Nat, ((growL m e term day k).length : Int) = min (e.falls.length + (cnt m e day k : Int)) term
  | 0 => by
    show (e.falls.length : Int) = min (e.falls.length + (0 : Int)) term
    omega
  | k + 1 => by
    have ih := growL_len m e term day hl k
    rw [growL_succ]
    show _ = min (e.falls.length + (((cnt m e day k + if freeB m e (day + (k + 1 : Nat)) then 1 else 0 : Nat)) : Int)) term
    cases h2 : freeB m e (day + ((k + 1 : Nat) : Int))
    · rw [if_neg (by intro h; cases h.2)]
      simpa using ih
    · by_cases h1 : 0 < term - ((growL m e term day k).length : Int)
      · rw [if_pos ⟨h1, rfl⟩, List.length_append]
        simp only [List.length_cons, List.length_nil, if_true]
        omega
      · rw [if_neg (fun h => h1 h.1)]
        simp only [if_true]
        omega
theorem growL_done (m : List (Str × List (Int × Int))) (e : Told) (term day : Int) {k : Nat} (h : term - ((growL m e term day k).length : Int) ≤ 0) : ∀ j : Nat, growL m e term day (k + j) = growL m e term day k
  | 0 => rfl
  | j + 1 => by
    have ih := growL_done m e term day h j
    show growL m e term day ((k + j) + 1) = _
    rw [growL_succ, ih, if_neg (by intro q; omega)]
/-- the day of the last fall: there the left comes to nothing -/
theorem growL_least {m : List (Str × List (Int × Int))} {e : Told} {term day : Int} (hl : (e.falls.length : Int) ≤ term) {k : Nat} (hk : Least m e day (term - e.falls.length) k) (h0 : 0 < term - (e.falls.length : Int)) :
    (∀ j, j < k → ((growL m e term day j).length : Int) < term) ∧ ((growL m e term day k).length : Int) = term ∧ (growL m e term day k).getLast? = some (day + k) := by
  refine ⟨fun j hj => ?_, ?_, ?_⟩
  · rw [growL_len m e term day hl]
    have := hk.lt j hj
    omega
  · rw [growL_len m e term day hl]
    have := hk.at_
    omega
  · cases k with
    | zero =>
      have := hk.at_
      have e0 : (cnt m e day 0 : Int) = 0 := rfl
      omega
    | succ k =>
      have a := hk.at_
      have b := hk.lt k (Nat.lt_succ_self k)
      have lk := growL_len m e term day hl k
      rw [growL_succ]
      have hf : freeB m e (day + ((k + 1 : Nat) : Int)) = true := by
        cases h2 : freeB m e (day + ((k + 1 : Nat) : Int)) with
        | true => rfl
        | false =>
          have : cnt m e day (k + 1) = cnt m e day k := by show cnt m e day k + _ = _; rw [h2]; rfl
          omega
      rw [if_pos ⟨by omega, hf⟩, List.getLast?_append]
      rfl
theorem mourn_bound (m : List (Str × List (Int × Int))) (a : Str) : ∃ B : Int, ∀ day, B < day → mournsB m a day = false := by
  unfold mournsB
  generalize (aget m a).getD [] = l
  induction l with
  | nil => exact ⟨0, fun _ _ => rfl⟩
  | cons e l ih =>
    obtain ⟨B, h⟩ := ih
    refine ⟨max B e.2, fun day hd => ?_⟩
    rw [List.any_cons, h day (by omega), Bool.or_false]
    have : ¬ day ≤ e.2 := by omega
    simp [this]
theorem free_bound (m : List (Str × List (Int × Int))) (e : Told) : ∃ B : Int, ∀ day, B < day → freeB m e day = true := by
  obtain ⟨B1, h1⟩ := mourn_bound m e.ower
  obtain ⟨B2, h2⟩ := mourn_bound m e.owed
  refine ⟨max B1 B2, fun day hd => ?_⟩
  unfold freeB
  rw [h1 day (by omega), h2 day (by omega)]
  rfl
theorem cnt_far {m : List (Str × List (Int × Int))} {e : Told} {day B : Int} (h : ∀ d, B < d → freeB m e d = true) {k0 : Nat} (hk : B ≤ day + k0) : ∀ j : Nat, j ≤ cnt m e day (k0 + j)
  | 0 => Nat.zero_le _
  | j + 1 => by
    have ih := cnt_far h hk j
    show j + 1 ≤ cnt m e day (k0 + j) + if freeB m e (day + ((k0 + j + 1 : Nat) : Int)) then 1 else 0
    rw [h _ (by omega)]
    simp only [if_true]
    omega
theorem cnt_step (m : List (Str × List (Int × Int))) (e : Told) (day : Int) (k : Nat) : cnt m e day (k + 1) ≤ cnt m e day k + 1 := by
  show cnt m e day k + (if freeB m e (day + ((k + 1 : Nat) : Int)) then 1 else 0) ≤ _
  split <;> omega
theorem first_nat {p : Nat → Prop} : ∀ n, p n → ∃ k, p k ∧ ∀ j, j < k → ¬ p j := by
  intro n
  induction n using Nat.strongRecOn with
  | _ n ih =>
    intro h
    by_cases q : ∃ j, j < n ∧ p j
    · obtain ⟨j, hj, pj⟩ := q
      exact ih j hj pj
    · exact ⟨n, h, fun j hj pj => q ⟨j, hj, pj⟩⟩
theorem least_ex (m : List (Str × List (Int × Int))) (e : Told) (day : Int) (many : Int) (hm : 0 ≤ many) : ∃ k, Least m e day many k := by
  obtain ⟨B, h⟩ := free_bound m e
  have hx : many ≤ (cnt m e day ((B - day).toNat + many.toNat) : Int) := by
    have := cnt_far h (day := day) (k0 := (B - day).toNat) (by omega) many.toNat
    omega
  obtain ⟨k, hk, hl⟩ := first_nat (p := fun k => many ≤ (cnt m e day k : Int)) _ hx
  refine ⟨k, ?_, fun j hj => by have := hl j hj; omega⟩
  cases k with
  | zero =>
    have e0 : cnt m e day 0 = 0 := rfl
    rw [e0] at hk ⊢
    omega
  | succ k =>
    have := hl k (Nat.lt_succ_self k)
    have := cnt_step m e day k
    omega
end K34
namespace K34
open PySem PySem.Spec L2

theorem key_one {f : Falls} (nd : (Keys f).Nodup) {d : Due × List Int} (h : d ∈ f) : (f.filter fun e => decide (e.1 = d.1)) = [d] := by
  induction f with
  | nil => cases h
  | cons e f ih =>
    have nd' : (e.1 :: Keys f).Nodup := nd
    rw [List.nodup_cons] at nd'
    rcases List.mem_cons.mp h with rfl | h
    · rw [List.filter_cons_of_pos (by simp)]
      congr 1
      refine List.filter_eq_nil_iff.mpr fun x hx hq => ?_
      have : x.1 = d.1 := of_decide_eq_true hq
      exact nd'.1 (this ▸ List.mem_map_of_mem hx)
    · rw [List.filter_cons_of_neg]
      · exact ih nd'.2 h
      · intro hq
        have : e.1 = d.1 := of_decide_eq_true hq
        exact nd'.1 (this ▸ List.mem_map_of_mem h)
/-- a due as told k days on -/
def toldAt (s : WS) (t : Int × Int) (day : Int) (k : Nat) (e : Due × List Int) : Told := { tell s e with falls := growL s.mourned (tell s e) (termOf t (tell s e).sort) day k }
theorem later_told {bk : List Page} (g : Good bk) (hne : bk ≠ []) {t : Int × Int} (ht : t.1 ≤ 60 ∧ t.2 ≤ 60) {day : Int} (h : ∀ p ∈ bk, p.day ≤ day) (k : Nat) : toldL bk t (day + k) = (walkEnd bk t day).1.falls.map (toldAt (walkEnd bk t day).1 t day k) := by
  unfold toldL
  rw [walk_later hne h k]
  show (later (walkEnd bk t day).1 t day k).falls.map (tell (later (walkEnd bk t day).1 t day k)) = _
  have j := walkEnd_J g ht day
  have hf : ∀ e ∈ (walkEnd bk t day).1.falls, e.1.page.day ≤ day := fun e he =>
    h _ ((upTo_sub bk day).subset (List.mem_filter.mp (j.inb e.1 (List.mem_map_of_mem he))).1)
  obtain ⟨e1, e2, e3⟩ := later_same (walkEnd bk t day).1 t day k
  rw [later_falls _ t day hf k, List.map_map]
  refine List.map_congr_left fun e he => ?_
  show tell (later (walkEnd bk t day).1 t day k) (e.1, _) = _
  unfold tell
  rw [e1]
  rfl
theorem perm_one {α : Type} {l : List α} {L : List α} (h : l.Perm L) (q : α → Bool) {x : α} (e : L.filter q = [x]) : l.filter q = [x] := by
  have := h.filter q
  rw [e] at this
  exact List.perm_singleton.mp this
theorem perm_none {α : Type} {l : List α} {L : List α} (h : l.Perm L) (q : α → Bool) (e : L.filter q = []) : l.filter q = [] := by
  have := h.filter q
  rw [e] at this
  exact List.perm_nil.mp this
theorem stand_rude {d e : Told} : standB d (rudeK e) = (decide (e.ower = d.ower) && decide (e.owed = d.owed) && decide (e.page = d.page)) := by
  have hp : d.page.key ∈ [.text e.ower, .text e.owed, e.page.key, .num (e.falls.getLast?.getD 0)] ↔ e.page = d.page := by
    constructor
    · intro h
      simp only [List.mem_cons, List.not_mem_nil, or_false] at h
      rcases h with h | h | h | h
      · cases hd : d.page <;> rw [hd] at h <;> cases h
      · cases hd : d.page <;> rw [hd] at h <;> cases h
      · exact (Page.key_inj h).symm
      · cases hd : d.page <;> rw [hd] at h <;> cases h
    · intro h
      rw [h]
      simp
  show (decide ([NestedKey.text e.ower, .text e.owed] = [.text d.ower, .text d.owed]) && decide (d.page.key ∈ [.text e.ower, .text e.owed, e.page.key, .num (e.falls.getLast?.getD 0)])) = _
  rw [Bool.eq_iff_iff]
  simp only [Bool.and_eq_true, decide_eq_true_eq, hp]
  constructor
  · rintro ⟨h, q⟩
    injection h with h1 h2
    injection h2 with h2 _
    injection h1 with h1
    injection h2 with h2
    exact ⟨⟨h1, h2⟩, q⟩
  · rintro ⟨⟨h1, h2⟩, q⟩
    rw [h1, h2]
    exact ⟨rfl, q⟩
end K34
namespace K34
open PySem PySem.Spec L2

theorem told_parts (s : WS) (t : Int × Int) (day : Int) (k : Nat) (e : Due × List Int) : (toldAt s t day k e).ower = e.1.ower ∧ (toldAt s t day k e).owed = e.1.owed ∧ (toldAt s t day k e).page = e.1.page := ⟨rfl, rfl, rfl⟩
/-- the rude papers k days on, of one due's houses and going -/
theorem rude_at {bk : List Page} (g : Good bk) (hne : bk ≠ []) {t : Int × Int} (ht : t.1 ≤ 60 ∧ t.2 ≤ 60) {day : Int} (h : ∀ p ∈ bk, p.day ≤ day) (k : Nat) {d : Due × List Int} (hd : d ∈ (walkEnd bk t day).1.falls) {ds : List Told} (hp : ds.Perm (toldL bk t (day + k))) :
    ((ds.filter fun e => decide (e.left t = 0)).map rudeK).filter (standB (tell (walkEnd bk t day).1 d)) = if (toldAt (walkEnd bk t day).1 t day k d).left t = 0 then [rudeK (toldAt (walkEnd bk t day).1 t day k d)] else [] := by
  have j := walkEnd_J g ht day
  rw [later_told g hne ht h k] at hp
  generalize walkEnd bk t day = W at *
  obtain ⟨s, mk⟩ := W
  dsimp only at *
  rw [List.filter_map]
  have e1 : (ds.filter fun e => decide (e.left t = 0)).filter (standB (tell s d) ∘ rudeK) = ds.filter fun e => (decide (e.ower = d.1.ower) && decide (e.owed = d.1.owed) && decide (e.page = d.1.page)) && decide (e.left t = 0) := by
    rw [List.filter_filter]
    refine List.filter_congr fun e _ => ?_
    rw [Function.comp, stand_rude]
    rfl
  rw [e1]
  have e2 : ((s.falls.map (toldAt s t day k)).filter fun e => (decide (e.ower = d.1.ower) && decide (e.owed = d.1.owed) && decide (e.page = d.1.page)) && decide (e.left t = 0)) = if (toldAt s t day k d).left t = 0 then [toldAt s t day k d] else [] := by
    rw [List.filter_map]
    have : (s.falls.filter ((fun e => (decide (e.ower = d.1.ower) && decide (e.owed = d.1.owed) && decide (e.page = d.1.page)) && decide (e.left t = 0)) ∘ toldAt s t day k)) = (s.falls.filter fun e => decide (e.1 = d.1)).filter fun e => decide ((toldAt s t day k e).left t = 0) := by
      rw [List.filter_filter]
      refine List.filter_congr fun e _ => ?_
      show ((decide (e.1.ower = d.1.ower) && decide (e.1.owed = d.1.owed) && decide (e.1.page = d.1.page)) && decide ((toldAt s t day k e).left t = 0)) = _
      rw [Bool.eq_iff_iff]
      simp only [Bool.and_eq_true, decide_eq_true_eq]
      constructor
      · rintro ⟨⟨⟨h1, h2⟩, h3⟩, h4⟩
        refine ⟨h4, ?_⟩
        obtain ⟨⟨a, b, c⟩, l⟩ := e
        obtain ⟨⟨a', b', c'⟩, l'⟩ := d
        dsimp only at h1 h2 h3
        rw [h1, h2, h3]
      · rintro ⟨h4, h5⟩
        rw [h5]
        exact ⟨⟨⟨rfl, rfl⟩, rfl⟩, h4⟩
    rw [this, key_one j.nd hd]
    by_cases z : (toldAt s t day k d).left t = 0
    · simp [z]
    · simp [z]
  by_cases z : (toldAt s t day k d).left t = 0
  · rw [if_pos z] at e2 ⊢
    rw [perm_one hp _ e2]
    rfl
  · rw [if_neg z] at e2 ⊢
    rw [perm_none hp _ e2]
    rfl
/-- what the last day is -/
structure Far (s : WS) (t : Int × Int) (day : Int) (d : Due × List Int) (K : Nat) : Prop where
  pos : 0 < K
  before : ∀ j, j < K → (toldAt s t day j d).left t ≠ 0
  at_ : ∀ j, (toldAt s t day (K + j) d).left t = 0 ∧ (toldAt s t day (K + j) d).falls.getLast?.getD 0 = day + K
theorem far_of {s : WS} {t : Int × Int} {day : Int} {d : Due × List Int} {K : Nat} (h0 : 0 < (tell s d).left t) (hk : Least s.mourned (tell s d) day ((tell s d).left t) K) : Far s t day d K := by
  have hl : ((tell s d).falls.length : Int) ≤ termOf t (tell s d).sort := by unfold Told.left at h0; omega
  obtain ⟨a, b, c⟩ := growL_least hl hk (by unfold Told.left at h0; omega)
  refine ⟨?_, fun j hj => ?_, fun j => ?_⟩
  · cases K with
    | zero =>
      have := hk.at_
      have e0 : (cnt s.mourned (tell s d) day 0 : Int) = 0 := rfl
      omega
    | succ K => exact Nat.succ_pos _
  · have := a j hj
    show termOf t (tell s d).sort - ((growL s.mourned (tell s d) (termOf t (tell s d).sort) day j).length : Int) ≠ 0
    omega
  · have hd := growL_done s.mourned (tell s d) (termOf t (tell s d).sort) day (k := K) (by omega) j
    show termOf t (tell s d).sort - ((growL s.mourned (tell s d) (termOf t (tell s d).sort) day (K + j)).length : Int) = 0 ∧ (growL s.mourned (tell s d) (termOf t (tell s d).sort) day (K + j)).getLast?.getD 0 = day + K
    rw [hd, c]
    exact ⟨by omega, rfl⟩
theorem rude_before {bk : List Page} (g : Good bk) (hne : bk ≠ []) {t : Int × Int} (ht : t.1 ≤ 60 ∧ t.2 ≤ 60) {day : Int} (h : ∀ p ∈ bk, p.day ≤ day) {d : Due × List Int} (hd : d ∈ (walkEnd bk t day).1.falls) {K : Nat} (f : Far (walkEnd bk t day).1 t day d K) {ds : List Told} (hp : ds.Perm (toldL bk t (day + K - 1))) :
    ((ds.filter fun e => decide (e.left t = 0)).map rudeK).filter (standB (tell (walkEnd bk t day).1 d)) = [] := by
  have hK := f.pos
  have e : day + (K : Int) - 1 = day + ((K - 1 : Nat) : Int) := by omega
  rw [e] at hp
  rw [rude_at g hne ht h (K - 1) hd hp, if_neg (f.before _ (by omega))]
theorem rude_after {bk : List Page} (g : Good bk) (hne : bk ≠ []) {t : Int × Int} (ht : t.1 ≤ 60 ∧ t.2 ≤ 60) {day : Int} (h : ∀ p ∈ bk, p.day ≤ day) {d : Due × List Int} (hd : d ∈ (walkEnd bk t day).1.falls) {K : Nat} (f : Far (walkEnd bk t day).1 t day d K) (j : Nat) {ds : List Told} (hp : ds.Perm (toldL bk t (day + K + j))) :
    ((ds.filter fun e => decide (e.left t = 0)).map rudeK).filter (standB (tell (walkEnd bk t day).1 d)) = [.tup [.text d.1.ower, .text d.1.owed, d.1.page.key, .num (day + K)]] := by
  have e : day + (K : Int) + j = day + ((K + j : Nat) : Int) := by omega
  rw [e] at hp
  obtain ⟨a, b⟩ := f.at_ j
  rw [rude_at g hne ht h (K + j) hd hp, if_pos a]
  show [NestedKey.tup [.text d.1.ower, .text d.1.owed, d.1.page.key, .num ((toldAt (walkEnd bk t day).1 t day (K + j) d).falls.getLast?.getD 0)]] = _
  rw [b]
/-- no rude one without falls -/
theorem rude_falls {bk : List Page} {t : Int × Int} (h1 : 1 ≤ t.1 ∧ 1 ≤ t.2) (last : Int) : ∀ e ∈ toldL bk t last, e.left t = 0 → e.falls ≠ [] := by
  intro e _ h z
  unfold Told.left termOf at h
  rw [z] at h
  split at h <;> simp at h <;> omega
end K34
namespace K34
open PySem PySem.Spec L2

theorem sk_lt {p q : Page} (h : p.day < q.day) : PyProof.Rows.lexLt PyProof.Rows.itemOrd (skT (skOf p.key)) (skT (skOf q.key)) = true := by
  unfold skT
  rw [skData, skData]
  show PyProof.Rows.lexLt PyProof.Rows.itemOrd (PySem.W.keyToksAll [.int p.day, .int ((kindsL.idxOf p.kind : Nat) : Int), (NestedKey.tup (.text p.one :: p.rest)).data]) (PySem.W.keyToksAll [.int q.day, .int ((kindsL.idxOf q.kind : Nat) : Int), (NestedKey.tup (.text q.one :: q.rest)).data]) = true
  rw [PySem.W.dataLt_cons (x := .int p.day) (y := .int q.day) rfl, if_neg, PySem.W.dataLt_int]
  · exact decide_eq_true h
  · intro e
    have : p.day = q.day := by simpa [PyData.eqv] using e
    omega
def leP (a b : Page) : Bool := skLe skOf a.key b.key
theorem leP_total : PySem.W.TotalLe leP := ⟨fun a b c h1 h2 => (PySem.W.sortLe_total (PyProof.Rows.listOrd PyProof.Rows.itemOrd) false fun b => skT (skOf b)).trans a.key b.key c.key h1 h2, fun a b => (PySem.W.sortLe_total (PyProof.Rows.listOrd PyProof.Rows.itemOrd) false fun b => skT (skOf b)).total a.key b.key⟩
theorem leP_lt {p q : Page} (h : p.day < q.day) : leP p q = true ∧ leP q p = false := by
  have a := sk_lt h
  refine ⟨?_, ?_⟩
  · show (!PyProof.Rows.lexLt PyProof.Rows.itemOrd (skT (skOf q.key)) (skT (skOf p.key))) = true
    have : PyProof.Rows.lexLt PyProof.Rows.itemOrd (skT (skOf q.key)) (skT (skOf p.key)) = false := PyProof.Rows.KeyOrd.klt_asymm (O := PyProof.Rows.listOrd PyProof.Rows.itemOrd) (a := skT (skOf p.key)) (b := skT (skOf q.key)) a
    rw [this]; rfl
  · show (!PyProof.Rows.lexLt PyProof.Rows.itemOrd (skT (skOf p.key)) (skT (skOf q.key))) = false
    rw [a]; rfl
theorem leP_day {p q : Page} (h : leP p q = true) : p.day ≤ q.day := by
  by_cases z : q.day < p.day
  · rw [(leP_lt z).2] at h
    cases h
  · omega
abbrev Ranked (qs : List Page) : Prop := qs.Pairwise fun a b => leP a b = true
theorem Ranked.sorted {qs : List Page} (h : Ranked qs) : Sorted qs := h.imp fun q => leP_day q
theorem sortP_ranked (qs : List Page) : Ranked (sortP qs) := PySem.W.sort_pairwise leP_total qs
theorem sortP_perm (qs : List Page) : (sortP qs).Perm qs := List.mergeSort_perm _ _
theorem sortP_last {bk : List Page} (h : Ranked bk) {pg : Page} (hd : ∀ p ∈ bk, p.day < pg.day) : sortP (bk ++ [pg]) = bk ++ [pg] := by
  refine List.mergeSort_of_pairwise ?_
  refine List.pairwise_append.mpr ⟨h, List.pairwise_singleton _ _, fun a ha b hb => ?_⟩
  rw [List.mem_singleton.mp hb]
  exact (leP_lt (hd a ha)).1
theorem dedup_nodup (ps : List Page) : (dedupP ps).Nodup := by
  have go : ∀ (ps acc : List Page), acc.Nodup → (ps.foldl (fun acc p => if p ∈ acc then acc else acc ++ [p]) acc).Nodup := by
    intro ps
    induction ps with
    | nil => intro acc h; exact h
    | cons q ps ih =>
      intro acc h
      rw [List.foldl_cons]
      refine ih _ ?_
      by_cases z : q ∈ acc
      · rw [if_pos z]; exact h
      · rw [if_neg z]
        refine List.nodup_append.mpr ⟨h, by simp, fun a ha b hb => ?_⟩
        rw [List.mem_singleton.mp hb]
        rintro rfl
        exact z ha
  exact go ps [] .nil
theorem dedup_le (ps : List Page) : (dedupP ps).length ≤ ps.length := nodup_len (dedup_nodup ps) fun _ h => mem_dedup.mp h
theorem CaseBook.good {bk : List Page} (h : CaseBook bk) : Good bk ∧ Ranked bk ∧ bk.length ≤ 40 ∧ ∀ p ∈ bk, p.day ≤ 20000 := by
  obtain ⟨ps, hl, hb, _, h⟩ := h
  have hp := sortP_perm (dedupP ps)
  have hr := sortP_ranked (dedupP ps)
  have hn : (sortP (dedupP ps)).Nodup := hp.nodup_iff.mpr (dedup_nodup ps)
  have hz : (sortP (dedupP ps)).length ≤ 40 := by
    rw [hp.length_eq]
    exact Nat.le_trans (dedup_le ps) hl
  have hm : ∀ p ∈ sortP (dedupP ps), BpOk p := fun p q => hb p (mem_dedup.mp (hp.mem_iff.mp q))
  have hs : bk.Sublist (sortP (dedupP ps)) := by
    rcases h with rfl | rfl
    · exact List.Sublist.refl _
    · exact List.filter_sublist
  have hm' : ∀ p ∈ bk, BpOk p := fun p q => hm p (hs.subset q)
  have hl' := Nat.le_trans hs.length_le hz
  exact ⟨⟨Ranked.sorted (hr.sublist hs), hn.sublist hs, by omega, fun p q => (hm' p q).1, fun p q => ⟨(hm' p q).2.1, by have := (hm' p q).2.2; omega⟩⟩, hr.sublist hs, hl', fun p q => (hm' p q).2.2⟩
/-- a later going told -/
theorem Good.snoc {bk : List Page} (g : Good bk) (hz : bk.length ≤ 50) {v : Bool} {X : Int} {a b : Str} (hX : X ≤ 100000) (h0 : 0 ≤ X) (hd : ∀ p ∈ bk, p.day < X) : Good (bk ++ [.going v X a b]) := by
  refine ⟨?_, ?_, ?_, ?_, ?_⟩
  · refine List.pairwise_append.mpr ⟨g.sorted, List.pairwise_singleton _ _, fun p hp q hq => ?_⟩
    rw [List.mem_singleton.mp hq]
    have := hd p hp
    show p.day ≤ X
    omega
  · refine List.nodup_append.mpr ⟨g.nd, by simp, fun p hp q hq => ?_⟩
    rw [List.mem_singleton.mp hq]
    rintro rfl
    have := hd _ hp
    have : (Page.going v X a b).day = X := rfl
    omega
  · rw [List.length_append]
    show bk.length + 1 ≤ 60
    omega
  · intro p hp
    rcases List.mem_append.mp hp with hp | hp
    · exact g.ok p hp
    · rw [List.mem_singleton.mp hp]
      intro d a b z
      cases z
  · intro p hp
    rcases List.mem_append.mp hp with hp | hp
    · exact g.lo p hp
    · rw [List.mem_singleton.mp hp]
      exact ⟨h0, hX⟩
end K34
namespace K34
open PySem PySem.Spec L2

theorem onDay_snoc_lt {bk : List Page} {pg : Page} {x : Int} (h : x < pg.day) : onDay (bk ++ [pg]) x = onDay bk x := by
  unfold onDay
  rw [List.filter_append, List.filter_cons_of_neg (by simp; omega), List.filter_nil, List.append_nil]
theorem onDay_snoc {bk : List Page} {pg : Page} (h : ∀ p ∈ bk, p.day < pg.day) : onDay (bk ++ [pg]) pg.day = [pg] := by
  unfold onDay
  rw [List.filter_append, List.filter_eq_nil_iff.mpr fun p hp => by have := h p hp; simp; omega]
  simp
theorem put_congr {s : WS} {l l' : List Page} {p : Page} (h : p ∈ l' ↔ p ∈ l) : s.put l' p = s.put l p := by
  unfold WS.put
  by_cases z : p ∈ l
  · rw [if_pos z, if_pos (h.mpr z)]
  · rw [if_neg z, if_neg (fun q => z (h.mp q))]
theorem fold_congr {l l' : List Page} : ∀ (ps : List Page), (∀ p ∈ ps, p ∈ l' ↔ p ∈ l) → ∀ st, ps.foldl (putStep l') st = ps.foldl (putStep l) st
  | [], _, _ => rfl
  | p :: ps, h, st => by
    rw [List.foldl_cons, List.foldl_cons]
    have e : putStep l' st p = putStep l st p := by
      unfold putStep
      rw [put_congr (h p List.mem_cons_self)]
    rw [e]
    exact fold_congr ps (fun q hq => h q (List.mem_cons_of_mem _ hq)) _
theorem runN_congr {l l' bk B : List Page} {t : Int × Int} {first : Int} (h2 : ∀ p ∈ bk, p ∈ l' ↔ p ∈ l) : ∀ n : Nat, (∀ i : Nat, i < n → onDay B (first + i) = onDay bk (first + i)) → runN l' t B first n = runN l t bk first n
  | 0, _ => rfl
  | n + 1, h => by
    show dayRun _ _ _ (runN l' t B first n) _ = dayRun _ _ _ (runN l t bk first n) _
    rw [runN_congr h2 n fun i hi => h i (by omega)]
    unfold dayRun
    rw [h n (Nat.lt_succ_self n), fold_congr (l := l) (l' := l') (onDay bk (first + n)) fun p hp => h2 p (List.mem_filter.mp hp).1]
theorem idle_snoc {bk : List Page} {v : Bool} {X : Int} {a b : Str} : (behind (bk ++ [.going v X a b])).idle = if (behind bk).can (.going v X a b) = true then (behind bk).idle else (behind bk).idle ++ [.going v X a b] := by
  rw [behind_snoc]
  unfold HS.meet
  by_cases h : (behind bk).can (.going v X a b) = true
  · rw [if_pos h, if_pos h]
    rfl
  · rw [if_neg h, if_neg h]
theorem idle_same {bk : List Page} {v : Bool} {X : Int} {a b : Str} (hd : ∀ p ∈ bk, p.day < X) : ∀ p ∈ bk, p ∈ (behind (bk ++ [.going v X a b])).idle ↔ p ∈ (behind bk).idle := by
  intro p hp
  rw [idle_snoc]
  split
  · exact Iff.rfl
  · rw [List.mem_append, List.mem_singleton]
    constructor
    · rintro (h | h)
      · exact h
      · subst h
        have := hd _ hp
        have e : (Page.going v X a b).day = X := rfl
        omega
    · exact .inl
theorem idle_new {bk : List Page} {v : Bool} {X : Int} {a b : Str} (hd : ∀ p ∈ bk, p.day < X) : Page.going v X a b ∈ (behind (bk ++ [.going v X a b])).idle ↔ ¬ (behind bk).can (.going v X a b) = true := by
  have hn : Page.going v X a b ∉ (behind bk).idle := fun h => by
    have := hd _ ((idle_sub bk).subset h)
    have e : (Page.going v X a b).day = X := rfl
    omega
  rw [idle_snoc]
  by_cases h : (behind bk).can (.going v X a b) = true
  · rw [if_pos h]
    exact ⟨fun q => absurd q hn, fun q => absurd h q⟩
  · rw [if_neg h]
    exact ⟨fun _ => h, fun _ => List.mem_append_right _ (List.mem_singleton.mpr rfl)⟩
theorem upTo_snoc_lt {bk : List Page} {pg : Page} {last : Int} (h : last < pg.day) : upTo (bk ++ [pg]) last = upTo bk last := by
  unfold upTo
  rw [List.filter_append, List.filter_cons_of_neg (by simp; omega), List.filter_nil, List.append_nil]
/-- ahead of the new page's day nothing is new -/
theorem walk_snoc_lt {bk : List Page} {pg : Page} {t : Int × Int} {last : Int} (h : last < pg.day) : walkEnd (bk ++ [pg]) t last = walkEnd bk t last := by
  unfold walkEnd
  rw [upTo_snoc_lt h]
/-- on its day -/
theorem walk_snoc {bk : List Page} (hne : bk ≠ []) {v : Bool} {X : Int} {a b : Str} {t : Int × Int} (hd : ∀ p ∈ bk, p.day < X) :
    walkEnd (bk ++ [.going v X a b]) t X = ((((walkEnd bk t (X - 1)).1.put (behind (bk ++ [.going v X a b])).idle (.going v X a b)).1.fall t X), (walkEnd bk t (X - 1)).2 ++ [(.going v X a b, ((walkEnd bk t (X - 1)).1.put (behind (bk ++ [.going v X a b])).idle (.going v X a b)).2)]) := by
  have hB : ∀ p ∈ bk ++ [.going v X a b], p.day ≤ X := by
    intro p hp
    rcases List.mem_append.mp hp with hp | hp
    · have := hd p hp
      omega
    · rw [List.mem_singleton.mp hp]
      exact Int.le_refl _
  have hb : ∀ p ∈ bk, p.day ≤ X - 1 := fun p hp => by have := hd p hp; omega
  have f0 := first_le bk (X - 1)
  have ef : ∀ l1 l2, firstDay (bk ++ [.going v X a b]) l1 = firstDay bk l2 := by
    intro l1 l2
    cases bk with
    | nil => exact absurd rfl hne
    | cons p r => rfl
  rw [upTo_all hb] at f0
  unfold walkEnd
  rw [upTo_all hb, upTo_all hB, ef X (X - 1)]
  have en : (X + 1 - firstDay bk (X - 1)).toNat = (X - 1 + 1 - firstDay bk (X - 1)).toNat + 1 := by omega
  rw [en]
  show dayRun _ _ _ (runN _ _ _ _ _) _ = _
  have ed : firstDay bk (X - 1) + ((X - 1 + 1 - firstDay bk (X - 1)).toNat : Int) = X := by omega
  rw [ed, runN_congr (l := (behind bk).idle) (bk := bk) (idle_same hd) _ fun i hi => onDay_snoc_lt (by show firstDay bk (X - 1) + (i : Int) < X; omega)]
  have eo : onDay (bk ++ [.going v X a b]) X = [.going v X a b] := onDay_snoc (pg := .going v X a b) hd
  unfold dayRun
  rw [eo]
  rfl
end K34
namespace K34
open PySem PySem.Spec L2

theorem stand_key {d e : Told} : standB d e.key = (decide (e.ower = d.ower) && decide (e.owed = d.owed) && decide (e.page = d.page)) := by
  have hp : d.page.key ∈ [.text e.ower, .text e.owed, .text (bS e.sort), e.page.key, .tup (ik e.falls)] ↔ e.page = d.page := by
    constructor
    · intro h
      simp only [List.mem_cons, List.not_mem_nil, or_false] at h
      rcases h with h | h | h | h | h
      · cases hd : d.page <;> rw [hd] at h <;> cases h
      · cases hd : d.page <;> rw [hd] at h <;> cases h
      · cases hd : d.page <;> rw [hd] at h <;> cases h
      · exact (Page.key_inj h).symm
      · cases he : e.falls with
        | nil => rw [he] at h; cases hd : d.page <;> rw [hd] at h <;> cases h
        | cons x r => rw [he] at h; cases hd : d.page <;> rw [hd] at h <;> cases h
    · intro h
      rw [h]
      simp
  show (decide ([NestedKey.text e.ower, .text e.owed] = [.text d.ower, .text d.owed]) && decide (d.page.key ∈ [.text e.ower, .text e.owed, .text (bS e.sort), e.page.key, .tup (ik e.falls)])) = _
  rw [Bool.eq_iff_iff]
  simp only [Bool.and_eq_true, decide_eq_true_eq, hp]
  constructor
  · rintro ⟨h, q⟩
    injection h with h1 h2
    injection h2 with h2 _
    injection h1 with h1
    injection h2 with h2
    exact ⟨⟨h1, h2⟩, q⟩
  · rintro ⟨⟨h1, h2⟩, q⟩
    rw [h1, h2]
    exact ⟨rfl, q⟩
def tdue (e : Told) : Due := ⟨e.ower, e.owed, e.page⟩
theorem stand_due {d e : Told} : (decide (e.ower = d.ower) && decide (e.owed = d.owed) && decide (e.page = d.page)) = decide (tdue e = tdue d) := by
  obtain ⟨a, b, c, p, l⟩ := e
  obtain ⟨a', b', c', p', l'⟩ := d
  rw [Bool.eq_iff_iff]
  simp [tdue, and_assoc]
theorem keys_drops (l : List Due) : ∀ (f : Falls) (e : Due), e ∈ Keys (l.foldl adrop f) ↔ e ∉ l ∧ e ∈ Keys f := by
  induction l with
  | nil => intro f e; simp
  | cons d l ih =>
    intro f e
    rw [List.foldl_cons, ih, mem_keys_drop]
    simp only [List.mem_cons, not_or]
    constructor
    · rintro ⟨a, b, c⟩; exact ⟨⟨b, a⟩, c⟩
    · rintro ⟨⟨b, a⟩, c⟩; exact ⟨a, b, c⟩
theorem later_keys (s : WS) (t : Int × Int) (day : Int) (k : Nat) : Keys (later s t day k).falls = Keys s.falls := by
  induction k with
  | zero => rfl
  | succ k ih => exact (fall_keys _ t _).trans ih
/-- the card or the visit that answers strikes this due -/
theorem paid_mem {s s' : WS} (hk : Keys s'.falls = Keys s.falls) (hs : s'.sorts = s.sorts) {d : Due × List Int} (hd : d ∈ s.falls) {m : Bool}
    (h : (tell s d).sort = false ∨ (s'.paid d.1.ower d.1.owed m).length = ((Keys s.falls).filter fun e => decide (e.ower = d.1.ower) && decide (e.owed = d.1.owed)).length) : d.1 ∈ s'.paid d.1.ower d.1.owed m := by
  have hm : d.1 ∈ Keys s.falls := List.mem_map_of_mem hd
  unfold WS.paid at h ⊢
  have hk' : s'.falls.map (·.1) = Keys s.falls := hk
  rw [hk', hs] at h ⊢
  rcases h with h | h
  · refine List.mem_filter.mpr ⟨hm, ?_⟩
    have e : (aget s.sorts d.1.page).getD false = false := h
    rw [e]
    simp
  · have e : ((Keys s.falls).filter fun e => (decide (e.ower = d.1.ower) && decide (e.owed = d.1.owed)) && (m || !((aget s.sorts e.page).getD false))) = ((Keys s.falls).filter fun e => decide (e.ower = d.1.ower) && decide (e.owed = d.1.owed)).filter fun e => (m || !((aget s.sorts e.page).getD false)) := by
      rw [List.filter_filter]
      exact List.filter_congr fun e _ => Bool.and_comm _ _
    rw [e] at h ⊢
    rw [List.Sublist.eq_of_length List.filter_sublist h]
    exact List.mem_filter.mpr ⟨hm, by simp⟩
/-- who isn't among the dues isn't told -/
theorem told_gone {B : List Page} {t : Int × Int} {last : Int} {d : Told} (h : tdue d ∉ Keys (walkEnd B t last).1.falls) {ds : List Told} (hp : ds.Perm (toldL B t last)) :
    (ds.map Told.key).filter (standB d) = [] ∧ ((ds.filter fun e => decide (e.left t = 0)).map rudeK).filter (standB d) = [] := by
  have hn : ∀ e ∈ ds, tdue e ≠ tdue d := by
    intro e he z
    have := hp.mem_iff.mp he
    obtain ⟨x, hx, rfl⟩ := List.mem_map.mp this
    refine h (z ▸ ?_)
    exact List.mem_map_of_mem hx
  refine ⟨List.filter_eq_nil_iff.mpr fun k hk => ?_, List.filter_eq_nil_iff.mpr fun k hk => ?_⟩
  · obtain ⟨e, he, rfl⟩ := List.mem_map.mp hk
    rw [stand_key, stand_due, decide_eq_true_eq]
    exact hn e he
  · obtain ⟨e, he, rfl⟩ := List.mem_map.mp hk
    rw [stand_rude, stand_due, decide_eq_true_eq]
    exact hn e (List.mem_filter.mp he).1
/-- who is among them is -/
theorem told_there {B : List Page} {t : Int × Int} {last : Int} {d : Told} (h : tdue d ∈ Keys (walkEnd B t last).1.falls) {ds : List Told} (hp : ds.Perm (toldL B t last)) : (ds.map Told.key).filter (standB d) ≠ [] := by
  obtain ⟨x, hx, e⟩ := List.mem_map.mp h
  have hm : tell (walkEnd B t last).1 x ∈ ds := hp.mem_iff.mpr (List.mem_map_of_mem hx)
  intro z
  have := List.filter_eq_nil_iff.mp z _ (List.mem_map_of_mem hm)
  rw [stand_key, stand_due, decide_eq_true_eq] at this
  exact this e
end K34
namespace K34
open PySem PySem.Spec L2

theorem put_ways (s : WS) (l : List Page) (v : Bool) (X : Int) (a b : Str) : (s.put l (.going v X a b)).2 = mIdle ∨ (s.put l (.going v X a b)).2 = mDue ∨
    ((s.put l (.going v X a b)).2 = mAns (s.paid a b (s.isMet v X a b)).length ∧ (s.put l (.going v X a b)).1.falls = (s.paid a b (s.isMet v X a b)).foldl adrop s.falls) := by
  by_cases h : Page.going v X a b ∈ l
  · left
    unfold WS.put
    rw [if_pos h]
  · right
    have e : s.put l (.going v X a b) = s.go v X a b := by
      unfold WS.put
      rw [if_neg h]
    rw [e]
    unfold WS.go
    by_cases z : (s.paid a b (s.isMet v X a b)).isEmpty = true
    · left
      rw [if_pos z]
    · right
      rw [if_neg z]
      exact ⟨rfl, rfl⟩
theorem ans_ne (n : Nat) : mIdle ≠ mAns n ∧ mDue ≠ mAns n := by
  constructor
  · intro h
    injection h with h
    injection h with _ h
    cases h
  · intro h
    injection h with h
    injection h with _ h
    cases h
theorem owes_len {bk : List Page} {t : Int × Int} {day : Int} {x y : Str} {ds : List Told} (hp : ds.Perm (toldL bk t day)) :
    (ds.filter fun e => decide (e.ower = x) && decide (e.owed = y)).length = ((Keys (walkEnd bk t day).1.falls).filter fun e => decide (e.ower = x) && decide (e.owed = y)).length := by
  rw [(hp.filter _).length_eq]
  unfold toldL Keys
  rw [List.filter_map, List.filter_map, List.length_map, List.length_map]
  rfl
/-- the book with the paying going -/
def paidBook (bk : List Page) (t : Int × Int) (day : Int) (d : Due × List Int) (X : Int) : List Page := bk ++ [.going (tell (walkEnd bk t day).1 d).sort X d.1.ower d.1.owed]
def payMark (bk : List Page) (t : Int × Int) (day : Int) (d : Due × List Int) (X : Int) : NestedKey := ((walkEnd bk t (X - 1)).1.put (behind (paidBook bk t day d X)).idle (.going (tell (walkEnd bk t day).1 d).sort X d.1.ower d.1.owed)).2
section
variable {bk : List Page} {t : Int × Int} {day : Int} {d : Due × List Int} {X : Int} {K n : Nat}
theorem before_same (hne : bk ≠ []) (h : ∀ p ∈ bk, p.day ≤ day) (hX : day < X) : ∃ k : Nat, X - 1 = day + k ∧ (walkEnd bk t (X - 1)).1 = later (walkEnd bk t day).1 t day k := by
  refine ⟨(X - 1 - day).toNat, by omega, ?_⟩
  have e : X - 1 = day + ((X - 1 - day).toNat : Int) := by omega
  have w := walk_later (t := t) hne h (X - 1 - day).toNat
  rw [← e] at w
  rw [w]
theorem pay_gone (hne : bk ≠ []) (h : ∀ p ∈ bk, p.day ≤ day) (hd : d ∈ (walkEnd bk t day).1.falls) (hX : day < X) (hm : payMark bk t day d X = mAns n)
    (hn : (tell (walkEnd bk t day).1 d).sort = false ∨ n = ((Keys (walkEnd bk t day).1.falls).filter fun e => decide (e.ower = d.1.ower) && decide (e.owed = d.1.owed)).length) (k : Nat) :
    d.1 ∉ Keys (walkEnd (paidBook bk t day d X) t (X + k)).1.falls := by
  have hlt : ∀ p ∈ bk, p.day < X := fun p hp => by have := h p hp; omega
  have hB : ∀ p ∈ paidBook bk t day d X, p.day ≤ X := by
    intro p hp
    rcases List.mem_append.mp hp with hp | hp
    · have := hlt p hp
      omega
    · rw [List.mem_singleton.mp hp]
      exact Int.le_refl _
  have hBn : paidBook bk t day d X ≠ [] := by
    unfold paidBook
    simp
  rw [walk_later hBn hB k]
  show d.1 ∉ Keys (later (walkEnd (paidBook bk t day d X) t X).1 t X k).falls
  rw [later_keys]
  have w := walk_snoc (t := t) hne (v := (tell (walkEnd bk t day).1 d).sort) (a := d.1.ower) (b := d.1.owed) hlt
  unfold paidBook
  rw [w]
  show d.1 ∉ Keys (WS.fall _ t X).falls
  rw [fall_keys]
  obtain ⟨k0, e0, e1⟩ := before_same (t := t) hne h hX
  have hk : Keys (walkEnd bk t (X - 1)).1.falls = Keys (walkEnd bk t day).1.falls := by rw [e1, later_keys]
  have hs : (walkEnd bk t (X - 1)).1.sorts = (walkEnd bk t day).1.sorts := by rw [e1]; exact (later_same _ _ _ _).1
  unfold payMark paidBook at hm
  rcases put_ways (walkEnd bk t (X - 1)).1 (behind (bk ++ [Page.going (tell (walkEnd bk t day).1 d).sort X d.1.ower d.1.owed])).idle (tell (walkEnd bk t day).1 d).sort X d.1.ower d.1.owed with z | z | ⟨z1, z2⟩
  · exact absurd (z.symm.trans hm) (ans_ne n).1
  · exact absurd (z.symm.trans hm) (ans_ne n).2
  · rw [z2, keys_drops]
    have hl : ((walkEnd bk t (X - 1)).1.paid d.1.ower d.1.owed ((walkEnd bk t (X - 1)).1.isMet (tell (walkEnd bk t day).1 d).sort X d.1.ower d.1.owed)).length = n := by
      have := z1.symm.trans hm
      injection this with this
      injection this with _ this
      injection this with this _
      injection this with this
      omega
    exact fun q => q.1 (paid_mem hk hs hd (hn.imp id fun z => hl.trans z))
theorem pay_there (hne : bk ≠ []) (h : ∀ p ∈ bk, p.day ≤ day) (hd : d ∈ (walkEnd bk t day).1.falls) (hX : day < X) : d.1 ∈ Keys (walkEnd (paidBook bk t day d X) t (X - 1)).1.falls := by
  have e : walkEnd (paidBook bk t day d X) t (X - 1) = walkEnd bk t (X - 1) := walk_snoc_lt (pg := .going (tell (walkEnd bk t day).1 d).sort X d.1.ower d.1.owed) (by show X - 1 < X; omega)
  rw [e]
  obtain ⟨k0, e0, e1⟩ := before_same (t := t) hne h hX
  rw [e1, later_keys]
  exact List.mem_map_of_mem hd
theorem pay_rude (g : Good bk) (hne : bk ≠ []) (ht : t.1 ≤ 60 ∧ t.2 ≤ 60) (h : ∀ p ∈ bk, p.day ≤ day) (hd : d ∈ (walkEnd bk t day).1.falls) (hX : day < X) (f : Far (walkEnd bk t day).1 t day d K) (hf : X ≤ day + K) {ds : List Told} (hp : ds.Perm (toldL (paidBook bk t day d X) t (X - 1))) :
    ((ds.filter fun e => decide (e.left t = 0)).map rudeK).filter (standB (tell (walkEnd bk t day).1 d)) = [] := by
  have e : walkEnd (paidBook bk t day d X) t (X - 1) = walkEnd bk t (X - 1) := walk_snoc_lt (pg := .going (tell (walkEnd bk t day).1 d).sort X d.1.ower d.1.owed) (by show X - 1 < X; omega)
  unfold toldL at hp
  rw [e] at hp
  have e2 : X - 1 = day + ((X - 1 - day).toNat : Int) := by omega
  rw [e2] at hp
  rw [rude_at g hne ht h _ hd hp, if_neg (f.before _ (by omega))]
end
end K34
namespace K34
open PySem PySem.Spec L2

theorem fold_marks (l : List Page) : ∀ (ps : List Page) (st : WS × Marks), (ps.foldl (putStep l) st).2.map (·.1) = st.2.map (·.1) ++ ps
  | [], st => by simp
  | p :: ps, st => by
    rw [List.foldl_cons, fold_marks l ps]
    show (st.2 ++ [(p, (st.1.put l p).2)]).map (fun e : Page × NestedKey => e.1) ++ ps = _
    simp
theorem run_marks {l bk : List Page} {t : Int × Int} {first : Int} : ∀ n : Nat, (∀ p ∈ (runN l t bk first n).2.map (·.1), p ∈ bk) ∧ (runN l t bk first n).2.length ≤ below bk (first + n)
  | 0 => ⟨fun p h => (by cases h), Nat.zero_le _⟩
  | n + 1 => by
    obtain ⟨a, b⟩ := run_marks (l := l) (bk := bk) (t := t) (first := first) n
    have e : (runN l t bk first (n + 1)).2.map (·.1) = (runN l t bk first n).2.map (·.1) ++ onDay bk (first + n) := fold_marks l _ _
    refine ⟨fun p h => ?_, ?_⟩
    · rw [e] at h
      rcases List.mem_append.mp h with h | h
      · exact a p h
      · exact (List.mem_filter.mp h).1
    · have el := congrArg List.length e
      rw [List.length_append, List.length_map, List.length_map] at el
      have bs := below_succ bk (first + n)
      have ee : first + ((n + 1 : Nat) : Int) = first + n + 1 := by omega
      rw [ee, bs, el]
      omega
theorem walk_marks (bk : List Page) (t : Int × Int) (last : Int) : (∀ e ∈ (walkEnd bk t last).2, e.1 ∈ bk) ∧ (walkEnd bk t last).2.length ≤ bk.length := by
  obtain ⟨a, b⟩ := run_marks (l := (behind (upTo bk last)).idle) (bk := upTo bk last) (t := t) (first := firstDay (upTo bk last) last) (last + 1 - firstDay (upTo bk last) last).toNat
  refine ⟨fun e he => (upTo_sub bk last).subset (a e.1 (List.mem_map_of_mem he)), Nat.le_trans b ?_⟩
  unfold below
  exact Nat.le_trans (List.length_filter_le _ _) (upTo_sub bk last).length_le
/-- what would asks -/
theorem would_ok {bk : List Page} (g : Good bk) (r : Ranked bk) (hz : bk.length ≤ 40) (hne : bk ≠ []) {t : Int × Int} (ht : t.1 ≤ 60 ∧ t.2 ≤ 60) {day X : Int} {v : Bool} {a b : Str} (h : ∀ p ∈ bk, p.day ≤ day) (hX : day < X) (h0 : 0 ≤ X) (h1 : X ≤ 100000) :
    withP bk day (.going v X a b) = bk ++ [.going v X a b] ∧ Good (bk ++ [.going v X a b]) ∧ (upTo bk day ++ [Page.going v X a b]).Nodup ∧ BookOk (withP bk day (.going v X a b)) t X ∧ (walkEnd (withP bk day (.going v X a b)) t X).2.length ≤ 900 ∧
    ((walkEnd (withP bk day (.going v X a b)) t X).2.filter fun e => decide (e.1 = Page.going v X a b)).head? = some (Page.going v X a b, ((walkEnd bk t (X - 1)).1.put (behind (bk ++ [.going v X a b])).idle (.going v X a b)).2) := by
  have hlt : ∀ p ∈ bk, p.day < X := fun p hp => by have := h p hp; omega
  have e : withP bk day (.going v X a b) = bk ++ [.going v X a b] := by
    unfold withP
    rw [upTo_all h]
    exact sortP_last r (pg := .going v X a b) hlt
  have gB := g.snoc (v := v) (a := a) (b := b) (by omega) h1 h0 hlt
  rw [e, upTo_all h]
  refine ⟨rfl, gB, gB.nd, gB.bookOk ht ⟨h0, by omega⟩, ?_, ?_⟩
  · have := (walk_marks (bk ++ [.going v X a b]) t X).2
    rw [List.length_append] at this
    have e1 : [Page.going v X a b].length = 1 := rfl
    omega
  · rw [walk_snoc hne hlt, List.filter_append]
    have en : ((walkEnd bk t (X - 1)).2.filter fun e => decide (e.1 = Page.going v X a b)) = [] := List.filter_eq_nil_iff.mpr fun e he => by
      have hm := (walk_marks bk t (X - 1)).1 e he
      have hd := hlt _ hm
      intro q
      have q := of_decide_eq_true q
      rw [q] at hd
      exact absurd hd (Int.lt_irrefl _)
    rw [en, List.nil_append, List.filter_cons_of_pos (by simp)]
    rfl
end K34
namespace K34
open PySem PySem.Spec L2

section
variable {P : Program} {w : World} {K : PySem.W.Frag} {mg : Str → Option Value} {base : Heap} {CH CW aK aA aG : Addr} {H H' : Hp} {σ : St} {ta tb : TE} {x y : V}
/-- what paying is asked: a due that isn't rude, its last day day + Kf -/
structure PayOk (bk : List Page) (t : Int × Int) (day : Int) (d : Due × List Int) (Kf : Nat) : Prop where
  g : Good bk
  r : Ranked bk
  z : bk.length ≤ 40
  ne : bk ≠ []
  t60 : t.1 ≤ 60 ∧ t.2 ≤ 60
  le : ∀ p ∈ bk, p.day ≤ day
  d0 : 0 ≤ day
  d1 : day + Kf ≤ 40000
  kf : 0 < Kf
  mem : d ∈ (walkEnd bk t day).1.falls
def pairN (bk : List Page) (t : Int × Int) (day : Int) (d : Due × List Int) : Nat := ((Keys (walkEnd bk t day).1.falls).filter fun e => decide (e.ower = d.1.ower) && decide (e.owed = d.1.owed)).length
def spPaying : Sp := fun vs H Q _ => ∃ f l N vB vT vd bk t day d Kf, vs = [.ref f, vB, vT, .int day, vd, .int (day + ((Kf : Nat) : Int))] ∧ FeedAt H f l N ∧ N + 20 < 2 ^ 40 ∧ Fz H vB (.tup (bk.map Page.key)) ∧ TermsF H vT t ∧ Fz H vd (tell (walkEnd bk t day).1 d).key ∧ PayOk bk t day d Kf ∧
  (∀ H', Kp f H H' → FeedAt H' f l (N + 1) → Q .non H') ∧ ∀ v H' X n, Kp f H H' → FeedAt H' f l (N + 1) → Fz H' v (Page.going (tell (walkEnd bk t day).1 d).sort X d.1.ower d.1.owed).key → day < X → X ≤ day + Kf → payMark bk t day d X = mAns n → ((tell (walkEnd bk t day).1 d).sort = false ∨ n = pairN bk t day d) → Q v H'
/-- the houses of a due stand -/
theorem PayOk.stand {bk : List Page} {t : Int × Int} {day : Int} {d : Due × List Int} {Kf : Nat} (h : PayOk bk t day d Kf) : (aget (behind (upTo bk day)).homes d.1.ower).isSome = true ∧ (aget (behind (upTo bk day)).homes d.1.owed).isSome = true :=
  (walkEnd_J h.g h.t60 day).stand d.1 (List.mem_map_of_mem h.mem)
theorem PayOk.dues {bk : List Page} {t : Int × Int} {day : Int} {d : Due × List Int} {Kf : Nat} (h : PayOk bk t day d Kf) : DuesOk bk t day :=
  h.g.duesOk h.t60 ⟨h.d0, by have := h.d1; omega⟩
theorem PayOk.would {bk : List Page} {t : Int × Int} {day : Int} {d : Due × List Int} {Kf : Nat} (h : PayOk bk t day d Kf) {X : Int} (hX : day < X) (h1 : X ≤ 100000) :
    (upTo bk day ++ [Page.going (tell (walkEnd bk t day).1 d).sort X d.1.ower d.1.owed]).Nodup ∧ BookOk (withP bk day (.going (tell (walkEnd bk t day).1 d).sort X d.1.ower d.1.owed)) t X ∧ (walkEnd (withP bk day (.going (tell (walkEnd bk t day).1 d).sort X d.1.ower d.1.owed)) t X).2.length ≤ 900 ∧
    ((walkEnd (withP bk day (.going (tell (walkEnd bk t day).1 d).sort X d.1.ower d.1.owed)) t X).2.filter fun e => decide (e.1 = Page.going (tell (walkEnd bk t day).1 d).sort X d.1.ower d.1.owed)).head? = some (Page.going (tell (walkEnd bk t day).1 d).sort X d.1.ower d.1.owed, payMark bk t day d X) := by
  have := h.d0
  obtain ⟨_, _, b, c, e, f⟩ := would_ok h.g h.r h.z h.ne h.t60 (v := (tell (walkEnd bk t day).1 d).sort) (a := d.1.ower) (b := d.1.owed) h.le hX (by omega) h1
  exact ⟨b, c, e, f⟩
end
end K34
namespace K34
open PySem PySem.Spec L2

section
variable {P : Program} {w : World} {K : PySem.W.Frag} {mg : Str → Option Value} {base : Heap} {CH CW aK aA aG : Addr} {H H' : Hp} {σ : St} {ta tb : TE} {x y : V}
theorem FzA.five_inv {H : Hp} {vs : List V} {k j l m n : NestedKey} (h : FzA H vs [k, j, l, m, n]) : ∃ v w x y z, vs = [v, w, x, y, z] ∧ Fz H v k ∧ Fz H w j ∧ Fz H x l ∧ Fz H y m ∧ Fz H z n := by
  cases h with
  | cons a h =>
    obtain ⟨w, x, y, z, rfl, b, c, d, e⟩ := h.four_inv
    exact ⟨_, w, x, y, z, rfl, a, b, c, d, e⟩
theorem ev_lenW {te : TE} {n : Nat} (h : EvP te σ H fun v H2 => ∃ ks, ks.length = n ∧ LW H H2 v ks) : EvV (tCB (rLenK K) (tCons te tNil)) σ H (.int (n : Int)) := fun H1 s Q q => h H1 s _ fun v H2 s2 ⟨ks, e, f⟩ => by
  obtain ⟨a, xs, rfl, hx, fx⟩ := f.ln.lf (K := K)
  exact ⟨a, xs, rfl, .inl hx, q _ _ s2 (by rw [fx.length, e])⟩
theorem sc_L_paying : FnScope ["_law_feed_here", "_law_book_here", "_law_terms", "_law_day", "_law_due", "_law_far", "_law_many", "_law_begin", "_law_one", "_law_page_here", "_law_mark"] ["_law_feed_here", "_law_book_here", "_law_terms", "_law_day", "_law_due", "_law_far"] (defScope s_L_paying) := ⟨rfl, rfl, rfl, by decide +kernel, rfl, by decide +kernel, by decide +kernel⟩
theorem ok_paying (T : Txt K mg CH CW aK aA aG) (D : Dat K mg "_law_paying" "_law_paying" s_L_paying ["_law_feed_here", "_law_book_here", "_law_terms", "_law_day", "_law_due", "_law_far"]) (G_owes : OK P w K mg base 17 "owes" ["book", "terms", "day", "a", "b"] spOwes) (G_L_draw : OK P w K mg base 1 "_law_draw" ["_law_feed_here", "_law_many"] spDraw) (G_would : OK P w K mg base 17 "would" ["book", "terms", "day", "page"] spWould) :
    OK P w K mg base 19 "_law_paying" ["_law_feed_here", "_law_book_here", "_law_terms", "_law_day", "_law_due", "_law_far"] spPaying := by
  refine ok_mk D sc_L_paying (fun vs H Q E h => ?_) (fun f0 cdv A outer s H vs Q E hr h => ?_)
  · obtain ⟨f, l, N, vB, vT, vd, bk, t, day, d, Kf, rfl, _⟩ := h
    rfl
  · obtain ⟨f, l, N, vB, vT, vd, bk, t, day, d, Kf, rfl, fd, hN, fB, fT, fD, ok, q0, q1⟩ := h
    refine ⟨_, (pss_cons (ps_set (i := 6) sc_L_paying.nd rfl (Or.inl rfl) (pe_callB call_lenK (by rfl) T.len b_len (pa_cons (px_call G_owes (hr.mono (by decide)) (by rfl) (pa_cons (pv 1) (pa_cons (pv 2) (pa_cons (pv 3) (pa_cons (pe_ix ix_tup (pv 4) pe_int (fun _ _ => rfl)) (pa_cons (pe_ix ix_tup (pv 4) pe_int (fun _ _ => rfl)) pa_nil)))))) pa_nil))) (pss_cons (ps_set (i := 7) sc_L_paying.nd rfl (Or.inl rfl) (pe_op op_add (pe_op op_add (pv 3) pe_int) (px_call G_L_draw (hr.mono (by decide)) (by rfl) (pa_cons (pv 0) (pa_cons (pe_op op_sub (pv 5) (pv 3)) pa_nil))))) (pss_cons (ps_for PassesOwn.never rfl (pi_range2 (by rfl) T.range (pa_cons (pv 7) (pa_cons (pe_op op_add (pe_callB (call_min2 rfl) (by rfl) T.min b_min (pa_cons (pv 5) (pa_cons (pe_op op_add (pv 7) pe_int) pa_nil))) pe_int) pa_nil))) (pg_name (i := 8) sc_L_paying.nd rfl (Or.inl rfl)) (pss_cons (ps_set (i := 9) sc_L_paying.nd rfl (Or.inl rfl) (pe_tup (pa_cons (pe_ix ix_tup (pv 4) pe_int (fun _ _ => rfl)) (pa_cons (pv 8) (pa_cons (pe_ix ix_tup (pv 4) pe_int (fun _ _ => rfl)) (pa_cons (pe_ix ix_tup (pv 4) pe_int (fun _ _ => rfl)) pa_nil)))))) (pss_cons (ps_set (i := 10) sc_L_paying.nd rfl (Or.inl rfl) (px_call G_would (hr.mono (by decide)) (by rfl) (pa_cons (pv 1) (pa_cons (pv 2) (pa_cons (pv 3) (pa_cons (pv 9) pa_nil)))))) (pss_one (ps_if (pw_and (pt_cmpR op_eq (pe_ix ix_tup (pv 10) pe_int (fun _ _ => rfl)) pe_str (nomark _)) (pw_and1 (pw_or (pt_cmpR op_eq (pe_ix ix_tup (pv 4) pe_int (fun _ _ => rfl)) pe_str (nomark _)) (pw_or1 (pt_cmpR op_eq (pe_ix ix_tup (pv 10) pe_int (fun _ _ => rfl)) (pv 6) (nomark _)))).pt)).pt (pss_one (ps_ret (pv 9))) pss_nil))))) (pss_one (ps_ret pe_non))))), ?_⟩
    have st := ok.stand
    refine q_asg (P := fun v _ => v = .int ((pairN bk t day d : Nat) : Int)) (ev_lenW (ep_callE (A := fun vs H2 => FzA H2 vs [.tup (bk.map Page.key), .tup [.num t.1, .num t.2], .num day, .text d.1.ower, .text d.1.owed]) (ea_cons (ef_var (i := 1) rfl fB) (ea_cons (ef_var (i := 2) rfl fT) (ea_cons (ef_of_int (ev_var (i := 3) rfl)) (ea_cons (told_ix (m := 0) rfl fD rfl) (ea_cons (told_ix (m := 1) rfl fD rfl) ea_nil))))) fun vs H2 s2 fa Q2 q2 => ?_)) fun v1 H1 s1 e1 => ?_
    · obtain ⟨u1, u2, u3, u4, u5, rfl, g1, g2, g3, g4, g5⟩ := fa.five_inv
      obtain rfl := g3.int_inv
      obtain rfl := g4.str_inv
      obtain rfl := g5.str_inv
      refine ⟨u1, u2, bk, t, day, d.1.ower, d.1.owed, rfl, g1, g2, ok.dues, st.1, st.2, fun v H3 s3 ⟨ds, hp, lw⟩ => q2 v H3 s3 ⟨_, ?_, lw.back s2⟩⟩
      rw [List.length_map, owes_len hp]
      rfl
    subst e1
    refine seqi ?_
    have kf := ok.kf
    have kd0 := ok.d0
    have kd1 := ok.d1
    refine ⟨_, rfl, day, 1, rfl, rfl, ?_⟩
    refine r_draw (m := (Kf : Int)) (σ := [some (.ref f), some vB, some vT, some (.int day), some vd, some (.int (day + (Kf : Int))), some (.int ((pairN bk t day d : Nat) : Int)), none, none, none, none]) (ev_var (i := 0) rfl) (fun H2 s2 Q q => ⟨_, rfl, _, rfl, _, _, rfl, rfl, (q _ _ (.refl _) (congrArg V.int (by omega : day + (Kf : Int) - day = (Kf : Int))))⟩) (fd.sm s1) (by omega) (by omega) (by omega) fun r H2 r0 r1 k2 fd2 => ?_
    refine ⟨_, _, rfl, rfl, ?_⟩
    dsimp only [gName]
    have fd1 := fd.sm s1
    have tk2 := fd1.tk k2
    have fB2 := (fB.sm s1).tk tk2
    have fT2 := (fT.sm s1).tk tk2
    have fD2 := (fD.sm s1).tk tk2
    have kk2 := (Kp.of_same s1).trans k2
    have args : EvA (tCons (tVar 7) (tCons (tOp (rI0 fun i j => V.int (i + j)) (tCB (fun xs H Q => ∃ i j, xs = [V.int i, V.int j] ∧ Q (V.int (if j < i then j else i)) H) (tCons (tVar 5) (tCons (tOp (rI0 fun i j => V.int (i + j)) (tVar 7) (tC (V.int 3))) tNil))) (tC (V.int 1))) tNil)) [some (.ref f), some vB, some vT, some (.int day), some vd, some (.int (day + (Kf : Int))), some (.int ((pairN bk t day d : Nat) : Int)), some (.int (day + 1 + r)), none, none, none] H2 (fun vs _ => vs = [.int (day + 1 + r), .int ((if day + 1 + r + 3 < day + (Kf : Int) then day + 1 + r + 3 else day + (Kf : Int)) + 1)]) :=
      ea_two (ev_var rfl) (ev_I0 (g := fun i j => .int (i + j)) (fun H3 s3 Q q => ⟨_, rfl, _, rfl, _, _, rfl, rfl, _, _, rfl, q _ _ (.refl _) rfl⟩) ev_c)
    generalize hto : (if day + 1 + r + 3 < day + (Kf : Int) then day + 1 + r + 3 else day + (Kf : Int)) = to at args
    have to1 : to ≤ day + (Kf : Int) := by rw [← hto]; split <;> omega
    refine seqi ?_
    unfold tFor iRng2
    refine args H2 (.refl _) _ fun vs H3 s3 ev => ?_
    subst ev
    refine ⟨_, _, rfl, by omega, ?_⟩
    refine for_range (lo := day + 1 + r) (n := (to + 1 - (day + 1 + r)).toNat) (fun i σ' H' => (∃ z8 z9 z10, σ' = [some (.ref f), some vB, some vT, some (.int day), some vd, some (.int (day + (Kf : Int))), some (.int ((pairN bk t day d : Nat) : Int)), some (.int (day + 1 + r)), z8, z9, z10]) ∧ Same H2 H') ⟨⟨none, none, none, rfl⟩, s3⟩ (fun i σ' H' hi ⟨⟨z8, z9, z10, es⟩, s4⟩ => ?_) (fun σ' H' ⟨⟨z8, z9, z10, es⟩, s4⟩ => ?_)
    · subst es
      dsimp only [gName]
      have hX : day < day + 1 + r + i := by omega
      have hX1 : day + 1 + r + i ≤ day + (Kf : Int) := by omega
      generalize day + 1 + r + (i : Int) = X at *
      have fB4 := fB2.sm s4
      have fT4 := fT2.sm s4
      have fD4 := fD2.sm s4
      have ekey : (Page.going (tell (walkEnd bk t day).1 d).sort X d.1.ower d.1.owed).key = .tup [.text (bS (tell (walkEnd bk t day).1 d).sort), .num X, .text d.1.ower, .text d.1.owed] := rfl
      refine q_asg (P := fun v H2 => Fz H2 v (Page.going (tell (walkEnd bk t day).1 d).sort X d.1.ower d.1.owed).key) (ef_tup (ks := [.text (bS (tell (walkEnd bk t day).1 d).sort), .num X, .text d.1.ower, .text d.1.owed]) (ea_cons (told_ix (m := 2) rfl fD4 rfl) (ea_cons (ef_of_int (ev_var (i := 8) rfl)) (ea_cons (told_ix (m := 0) rfl fD4 rfl) (ea_cons (told_ix (m := 1) rfl fD4 rfl) ea_nil))))) fun v9 H5 s5 f9 => ?_
      have okd1 := ok.d1
      obtain ⟨w1, w2, w3, w4⟩ := ok.would hX (by omega)
      refine q_asg (P := fun v H2 => Fz H2 v (payMark bk t day d X)) (ep_callE (A := fun vs H2 => FzA H2 vs [.tup (bk.map Page.key), .tup [.num t.1, .num t.2], .num day, (Page.going (tell (walkEnd bk t day).1 d).sort X d.1.ower d.1.owed).key]) (ea_cons (ef_var (i := 1) rfl (fB4.sm s5)) (ea_cons (ef_var (i := 2) rfl (fT4.sm s5)) (ea_cons (ef_of_int (ev_var (i := 3) rfl)) (ea_cons (ef_var (i := 9) rfl f9) ea_nil)))) fun vs H6 s6 fa Q6 q6 => ?_) fun v10 H6 s6 f10 => ?_
      · obtain ⟨u1, u2, u3, u4, rfl, g1, g2, g3, g4⟩ := fa.four_inv
        obtain rfl := g3.int_inv
        exact ⟨u1, u2, u4, bk, t, day, _, _, rfl, g1, g2, g4, by have := ok.z; omega, w1, w2, w3, w4, q6⟩
      have hw := put_ways (walkEnd bk t (X - 1)).1 (behind (paidBook bk t day d X)).idle (tell (walkEnd bk t day).1 d).sort X d.1.ower d.1.owed
      have stay : ∀ σ'' H'', (∃ z8 z9 z10, σ'' = [some (.ref f), some vB, some vT, some (.int day), some vd, some (.int (day + (Kf : Int))), some (.int ((pairN bk t day d : Nat) : Int)), some (.int (day + 1 + r)), z8, z9, z10]) → Same H6 H'' → ((∃ z8 z9 z10, σ'' = [some (.ref f), some vB, some vT, some (.int day), some vd, some (.int (day + (Kf : Int))), some (.int ((pairN bk t day d : Nat) : Int)), some (.int (day + 1 + r)), z8, z9, z10]) ∧ Same H2 H'') := fun σ'' H'' e s => ⟨e, ((s4.trans s5).trans s6).trans s⟩
      rcases hw with z | z | ⟨z1, z2⟩
      · have z : payMark bk t day d X = .tup [.text "idle"] := z
        rw [z] at f10
        exact s_if (b := false) (et_and (a := false) (b := false) (et_test (b := false) (ev_eqS (a := "idle") (b := "answer") (ev_of_str (ef_ix (ks := [.text "idle"]) (ef_var (i := 10) rfl f10) (ev_c (v := .int 0)) (atI_of (n := 0) rfl))) ev_c)) (fun h => by cases h)) (fun h => by cases h) (fun _ H7 s7 => stay _ _ ⟨_, _, _, rfl⟩ s7)
      · have z : payMark bk t day d X = .tup [.text "due"] := z
        rw [z] at f10
        exact s_if (b := false) (et_and (a := false) (b := false) (et_test (b := false) (ev_eqS (a := "due") (b := "answer") (ev_of_str (ef_ix (ks := [.text "due"]) (ef_var (i := 10) rfl f10) (ev_c (v := .int 0)) (atI_of (n := 0) rfl))) ev_c)) (fun h => by cases h)) (fun h => by cases h) (fun _ H7 s7 => stay _ _ ⟨_, _, _, rfl⟩ s7)
      · generalize hnn : ((walkEnd bk t (X - 1)).1.paid d.1.ower d.1.owed ((walkEnd bk t (X - 1)).1.isMet (tell (walkEnd bk t day).1 d).sort X d.1.ower d.1.owed)).length = n at z1
        have z : payMark bk t day d X = mAns n := z1
        rw [z] at f10
        have fD6 := (fD4.sm s5).sm s6
        refine s_if (b := true && (decide (bS (tell (walkEnd bk t day).1 d).sort = "card") || decide ((n : Int) = ((pairN bk t day d : Nat) : Int)))) (et_and (et_test (b := true) (ev_eqS (a := "answer") (b := "answer") (ev_of_str (ef_ix (ks := [.text "answer", .num n]) (ef_var (i := 10) rfl f10) (ev_c (v := .int 0)) (atI_of (n := 0) rfl))) ev_c)) (fun _ => et_or (et_test (ev_eqS (ev_of_str (told_ix (m := 2) rfl fD6 rfl)) ev_c)) (fun _ => et_test (ev_eqI (ev_of_int (ef_ix (ks := [.text "answer", .num n]) (ef_var (i := 10) rfl f10) (ev_c (v := .int 1)) (atI_of (n := 1) rfl))) (ev_var (i := 6) rfl))))) (fun hb H7 s7 => ?_) (fun _ H7 s7 => stay _ _ ⟨_, _, _, rfl⟩ s7)
        rw [Bool.true_and, Bool.or_eq_true, decide_eq_true_eq, decide_eq_true_eq] at hb
        refine s_ret (ef_var (i := 9) rfl ((f9.sm s6).sm s7)) fun v11 H8 s8 f11 => ?_
        have ss := (((s4.trans s5).trans s6).trans s7).trans s8
        refine q1 v11 H8 X n (kk2.trans (.of_same ss)) (fd2.sm ss) f11 hX hX1 z ?_
        rcases hb with hb | hb
        · left
          cases hs : (tell (walkEnd bk t day).1 d).sort with
          | false => rfl
          | true =>
            rw [hs] at hb
            exact absurd (bS_inj true false hb) (by decide)
        · right
          omega
    · subst es
      exact q0 H' (kk2.trans (.of_same s4)) (fd2.sm s4)
end
end K34
namespace K34
open PySem PySem.Spec L2

/-- what the law asks of a due: the draws made are at most N + 1, the answer is True -/
def spDueRight : Sp := fun vs H Q _ => ∃ f l N vB vT vd bk t day d, vs = [.ref f, vB, vT, .int day, vd] ∧ FeedAt H f l N ∧ N + 20 < 2 ^ 40 ∧ Fz H vB (.tup (bk.map Page.key)) ∧ TermsF H vT t ∧ Fz H vd (tell (walkEnd bk t day).1 d).key ∧ (1 ≤ t.1 ∧ t.1 ≤ 60 ∧ 1 ≤ t.2 ∧ t.2 ≤ 60) ∧
  Good bk ∧ Ranked bk ∧ bk.length ≤ 40 ∧ bk ≠ [] ∧ (∀ p ∈ bk, p.day ≤ day) ∧ 0 ≤ day ∧ day ≤ 30000 ∧ d ∈ (walkEnd bk t day).1.falls ∧ 0 < (tell (walkEnd bk t day).1 d).left t ∧
  ∀ H', Kp f H H' → FeedAt H' f l (N + 1) → Q (.bl true) H'
end K34
namespace K34
open PySem PySem.Spec L2

/-! ### defs in which repr is asked -/
structure GOK (P : Program) (w : World) (K : PySem.W.Frag) (mg : Str → Option Value) (base : Heap) (k : Nat) (x : Str) (ps : List Str) (sp : Sp) : Prop where
  ex : ∃ f fd, mg x = some (.ref f) ∧ PySem.W.keepIn K (.ref f) = true ∧ Binds K fd ps [] ∧ FnG P w K mg base k f fd ps sp
section
variable {P : Program} {w : World} {K : PySem.W.Frag} {mg : Str → Option Value} {base : Heap} {x qual : Str} {st : Stmt} {ps N : List Str} {k : Nat} {sp : Sp}
theorem gok_mk (D : Dat K mg x qual st ps) (S : FnScope N ps (defScope st)) (len : ∀ vs H Q E, sp vs H Q E → vs.length = ps.length)
    (hbody : ∀ (f : Addr) (cdv : Value) (A : Around) (outer : List Env) (s : Shared) (H : Hp) (vs : List V) (Q : VK) (E : XK), A.guards = some [] → Room k (A.deeper (PyProof.Rows.envOfC qual (defScope st) s.heap.objs.size f cdv)) → sp vs H Q E →
      ∃ t, PSs (cxOf CX0 P w K mg base N qual (defScope st) f cdv A outer s H E).nox (defBody st) t ∧ t { nx := fun _ H' => Q .non H', rt := Q } (start N vs) H) : GOK P w K mg base (k + 1) x ps sp :=
  let ⟨f, fd, h1, h2, h3, h4⟩ := D.ex
  ⟨f, fd, h1, h2, h4, fnG_of h3 S len fun cdv A outer s H vs Q E hg hr hsp => hbody f cdv A outer s H vs Q E hg hr hsp⟩
end
section
variable {X : Cx} {k : Nat} {x : Str} {ps : List Str} {sp : Sp} {p pos : Pos} {e : Expr} {es : List Expr} {t : TA}
theorem px_callG (G : GOK X.prog X.w X.K X.mg X.base k x ps sp) (hgd : X.A.guards = some []) (hr : Room k X.A) (hg : Gl X x) (ha : PA X (e :: es) t) (hdb : (x == ("__debug__" : Str)) = false := by decide)
    (he : starEach (e :: es) X.env = (false, eval e X.env) :: starEach es X.env := by rfl) (hpl : (backTo pos (starEach es X.env)).any (·.1) = false := by rfl) : PE X (.Call (.Name x p) (e :: es) [] pos) (tCall sp [] E0 t) :=
  let ⟨_, _, h1, h2, h3, h4⟩ := G.ex
  pe_callG h4 hgd hr hg h1 h2 h3 ha hdb he hpl
end
/-! ### evaluation -/
section
variable {P : Program} {w : World} {K : PySem.W.Frag} {σ : St} {H : Hp} {te ta tb tB tT tX tD tl : TE} {t : Int × Int}
theorem shown1_len {n : Int} (h : n.natAbs < 10 ^ 6) : (PyData.list [.int n]).shown.length ≤ sizeLine := by
  have e := int_text_length_le10 (k := 6) (by decide) h
  rw [PyProof.Rows.shownLen_list1]
  show (Str.ofString (toString n)).length + 2 ≤ sizeLine
  rw [ofString_length, sizeLine_eq]
  omega
theorem log1920 {n : Int} (h : n.natAbs < 10 ^ 6) : n.natAbs.log2 < 1920 := by
  by_cases z : n.natAbs = 0
  · rw [z]
    decide
  · have : n.natAbs.log2 < 20 := (Nat.log2_lt z).mpr (by omega)
    omega
theorem ev_repr1 {n : Int} (hn : n.natAbs < 10 ^ 6) (h : EvP te σ H fun v H2 => LF K H2 v [.num n]) : EvV (tCB (rRepr1 K) (tCons te tNil)) σ H (.str (PyData.list [.int n]).shown) := fun H1 s Q q => h H1 s _ fun v H2 s2 f => by
  obtain ⟨a, xs, rfl, hx, fx⟩ := f
  obtain ⟨u, rfl, f1⟩ := fx.one_inv
  obtain rfl := f1.int_inv
  exact ⟨a, n, rfl, hx, log1920 hn, shown1_len hn, q _ H2 s2 rfl⟩
theorem ev_min2 {i j : Int} (ha : EvV ta σ H (.int i)) (hb : EvV tb σ H (.int j)) : EvV (tCB (fun xs H Q => ∃ i j, xs = [V.int i, V.int j] ∧ Q (V.int (if j < i then j else i)) H) (tCons ta (tCons tb tNil))) σ H (.int (if j < i then j else i)) := fun H1 s Q q => (ea_two ha hb) H1 s _ fun vs H2 s2 e => ⟨i, j, e, q _ H2 s2 rfl⟩
theorem ev_isN {v : V} (ha : EvV ta σ H v) : EvV (tOp (fun x y H Q => y = V.non ∧ Q (V.bl (decide (x = V.non))) H) ta (tC .non)) σ H (.bl (decide (v = .non))) := ev_op ha ev_c fun H2 Q q => ⟨rfl, q⟩
theorem ev_neB {a b : Bool} (ha : EvV ta σ H (.bl a)) (hb : EvV tb σ H (.bl b)) : EvV (tOp rNe ta tb) σ H (.bl (!decide (a = b))) := ev_op ha hb fun H2 Q q => ⟨rfl, by rw [show decide (V.bl a = V.bl b) = decide (a = b) from by simp]; exact q⟩
theorem ev_neNb {b : Bool} (h : EvP ta σ H fun v H2 => ∃ F : List NestedKey, F.isEmpty = (!b) ∧ LF K H2 v F) : EvV (tOp (rNeN K) ta (tLst tNil)) σ H (.bl b) := fun H1 s Q q => h H1 s _ fun v H2 s2 ⟨F, eF, a, xs, e, hx, fx⟩ => ⟨Nat.zero_le _, fun p hp => ⟨a, p, xs, e, rfl, (Same.new hp).seq hx, sqL_of upd_same, (by
  have e : xs.isEmpty = F.isEmpty := by
    have := fx.length
    cases xs <;> cases F <;> simp_all
  rw [e, eF, Bool.not_not]
  exact q _ _ (s2.trans (Same.new hp)) rfl)⟩⟩
/-- tuple(sorted(pages, key=_law_rank)) -/
theorem ef_sortP {fK : Addr} {ps : List Page} (h : EvF tl σ H (.tup (ps.map Page.key))) :
    EvF (tCB (fun xs H Q => ∃ p ys, xs = [.ref p] ∧ ((SqL K H p ys ∧ ∀ l, H l = none → Q (.ref l) (upd H l (.tup ys))) ∨ (SqT K H p ys ∧ Q (.ref p) H))) (tCons (tCKw (rSortK P w K fK skOf IsPage) (tCons tl tNil) (tCons (tC (.ref fK)) tNil)) tNil)) σ H (.tup ((sortP ps).map Page.key)) := by
  refine ef_tupleL fun H1 s Q q => h H1 s _ fun v H2 s2 f => ?_
  obtain ⟨a, xs, rfl, hx, fx⟩ := f.tup_inv
  exact ⟨a, ps.map Page.key, rfl, rfl, .inl ⟨xs, .inr (sqT_of hx), fx⟩, keys_page ps, fun p ys H3 hp s3 hL hf => q _ H3 (s2.trans s3) ⟨p, ys, rfl, sqL_of hL, by rw [sortP_keys]; exact hf⟩⟩
theorem rude_keys (ds : List Told) : ∀ k ∈ ds.map rudeK, ∃ its, k = NestedKey.tup its ∧ 2 ≤ its.length ∧ k.depth ≤ 8 := fun k hk => by
  obtain ⟨e, _, rfl⟩ := List.mem_map.mp hk
  refine ⟨_, rfl, by simp, ?_⟩
  have := e.page.depth
  simp [rudeK, NestedKey.depth, NestedKey.depthAll]
  omega
theorem told_keys (ds : List Told) : ∀ k ∈ ds.map Told.key, ∃ its, k = NestedKey.tup its ∧ 2 ≤ its.length ∧ k.depth ≤ 8 := fun k hk => by
  obtain ⟨e, _, rfl⟩ := List.mem_map.mp hk
  exact ⟨_, rfl, by simp [Told.items], Nat.le_trans e.depth (by decide)⟩
theorem told_len {B : List Page} {X : Int} (ok : DuesOk B t X) {ds : List Told} (hp : ds.Perm (toldL B t X)) : ds.length ≤ 40000 := by
  rw [hp.length_eq]
  unfold toldL
  rw [List.length_map]
  exact ok.fit.len
theorem ea_pairP {P R : V → Hp → Prop} (h1 : EvP ta σ H P) (kp : Keeps P) (h2 : EvP tb σ H R) : EvA (tCons ta (tCons tb tNil)) σ H fun vs H2 => ∃ x y, vs = [x, y] ∧ P x H2 ∧ R y H2 := fun H1 s Q q => h1 H1 s _ fun x H2 s2 p => h2 H2 (s.trans s2) _ fun y H3 s3 r => q [x, y] H3 (s2.trans s3) ⟨x, y, rfl, kp _ _ _ s3 p, r⟩
/-- the rude ones of a due's houses and going -/
theorem ep_standR {B : List Page} {X : Int} {e : Told} {F : List NestedKey} (ok : DuesOk B t X) (h1 : 1 ≤ t.1 ∧ 1 ≤ t.2) (hB : EvF tB σ H (.tup (B.map Page.key))) (hT : EvF tT σ H (.tup [.num t.1, .num t.2])) (hX : EvV tX σ H (.int X)) (hD : EvF tD σ H e.key)
    (hF : ∀ ds : List Told, ds.Perm (toldL B t X) → ((ds.filter fun e => decide (e.left t = 0)).map rudeK).filter (standB e) = F) :
    EvP (tCall (spStands K) [] E0 (tCons (tCall spRude [] E0 (tCons tB (tCons tT (tCons tX tNil)))) (tCons tD tNil))) σ H fun v H2 => LW H H2 v F := by
  have hR : EvP (tCall spRude [] E0 (tCons tB (tCons tT (tCons tX tNil)))) σ H fun v H2 => ∃ ds : List Told, ds.Perm (toldL B t X) ∧ LF K H2 v ((ds.filter fun e => decide (e.left t = 0)).map rudeK) :=
    ep_callE (ea_cons hB (ea_cons hT (ea_cons (ef_of_int hX) ea_nil))) fun vs H1 s fa Q q => by
      obtain ⟨u1, u2, u3, rfl, g1, g2, g3⟩ := fa.three_inv
      obtain rfl := g3.int_inv
      exact ⟨u1, u2, B, t, X, rfl, g1, g2, ok, rude_falls h1 X, fun v H3 s3 ⟨ds, hp, lw⟩ => q v H3 s3 ⟨ds, hp, lw.ln.lf⟩⟩
  refine ep_callE (ea_pairP hR (fun v H H' s ⟨ds, hp, lf⟩ => ⟨ds, hp, lf.sm s⟩) hD) fun vs H1 s ⟨v, vd, ev, ⟨ds, hp, lf⟩, fd⟩ Q q => ?_
  subst ev
  have hl := told_len ok hp
  refine ⟨v, vd, _, e, rfl, lf, fd, rude_keys _, ?_, fun v' H5 s5 lw' => q v' H5 s5 ?_⟩
  · rw [List.length_map]
    exact Nat.le_trans (List.length_filter_le _ _) (by omega)
  · rw [hF ds hp] at lw'
    exact lw'.back s
/-- the dues of a due's houses and going -/
theorem ep_standD {B : List Page} {X : Int} {e : Told} {b : Bool} (ok : DuesOk B t X) (hB : EvF tB σ H (.tup (B.map Page.key))) (hT : EvF tT σ H (.tup [.num t.1, .num t.2])) (hX : EvV tX σ H (.int X)) (hD : EvF tD σ H e.key)
    (hF : ∀ ds : List Told, ds.Perm (toldL B t X) → ((ds.map Told.key).filter (standB e)).isEmpty = (!b)) :
    EvP (tCall (spStands K) [] E0 (tCons (tCall (spDues P w) [] E0 (tCons tB (tCons tT (tCons tX tNil)))) (tCons tD tNil))) σ H fun v H2 => ∃ F : List NestedKey, F.isEmpty = (!b) ∧ LF K H2 v F := by
  have hR : EvP (tCall (spDues P w) [] E0 (tCons tB (tCons tT (tCons tX tNil)))) σ H fun v H2 => ∃ ds : List Told, ds.Perm (toldL B t X) ∧ LF K H2 v (ds.map Told.key) :=
    (ep_dues (E := E0) ok (ea_cons hB (ea_cons hT (ea_cons (ef_of_int hX) ea_nil)))).imp fun v H' _ ⟨ds, hp, lw⟩ => ⟨ds, hp, lw.ln.lf⟩
  refine ep_callE (ea_pairP hR (fun v H H' s ⟨ds, hp, lf⟩ => ⟨ds, hp, lf.sm s⟩) hD) fun vs H1 s ⟨v, vd, ev, ⟨ds, hp, lf⟩, fd⟩ Q q => ?_
  subst ev
  have hl := told_len ok hp
  refine ⟨v, vd, _, e, rfl, lf, fd, told_keys _, ?_, fun v' H5 s5 lw' => q v' H5 s5 ⟨_, hF ds hp, lw'.ln.lf⟩⟩
  rw [List.length_map]
  omega
end
end K34
namespace K34
open PySem PySem.Spec L2

section
variable {P : Program} {w : World} {K : PySem.W.Frag} {mg : Str → Option Value} {base : Heap} {CH CW aK aA aG : Addr} {H H' : Hp} {σ : St} {ta tb : TE} {x y : V}
theorem sc_L_due_right : FnScope ["_law_feed_here", "_law_book_here", "_law_terms", "_law_day", "_law_due", "_law_far", "_law_one", "_law_paper", "_law_page_here", "_law_told"] ["_law_feed_here", "_law_book_here", "_law_terms", "_law_day", "_law_due"] (defScope s_L_due_right) := ⟨rfl, rfl, rfl, by decide +kernel, rfl, by decide +kernel, by decide +kernel⟩
theorem ok_due_right (T : Txt K mg CH CW aK aA aG) (D : Dat K mg "_law_due_right" "_law_due_right" s_L_due_right ["_law_feed_here", "_law_book_here", "_law_terms", "_law_day", "_law_due"]) (G_last : OK P w K mg base 15 "last" ["book", "terms", "day", "due"] (spLast P w)) (G_L_stands : OK P w K mg base 1 "_law_stands" ["_law_some", "_law_due"] (spStands K)) (G_rude : OK P w K mg base 19 "rude" ["book", "terms", "day"] spRude)
    (G_L_paying : OK P w K mg base 19 "_law_paying" ["_law_feed_here", "_law_book_here", "_law_terms", "_law_day", "_law_due", "_law_far"] spPaying) (G_dues : OK P w K mg base 15 "dues" ["book", "terms", "day"] (spDues P w)) (G : OK P w K mg base 1 "_law_rank" ["_law_page_here"] (fspR rankR)) :
    GOK P w K mg base 21 "_law_due_right" ["_law_feed_here", "_law_book_here", "_law_terms", "_law_day", "_law_due"] spDueRight := by
  obtain ⟨fK, fdK, mK, _, bK, FK⟩ := G.ex
  refine gok_mk D sc_L_due_right (fun vs H Q E h => ?_) (fun f0 cdv A outer s H vs Q E hgd hr h => ?_)
  · obtain ⟨f, l, N, vB, vT, vd, bk, t, day, d, rfl, _⟩ := h
    rfl
  · obtain ⟨f, l, N, vB, vT, vd, bk, t, day, d, rfl, fd, hN, fB, fT, fD, ht, g, r, hz, hne, hle, d0, d1, hd, hl, q⟩ := h
    have hspK := rank_sp
    have halK := pages_alike
    have hdK := sk_depth
    have hu := hr.units
    have hu0 := hr.units0
    have hu1 : _ + 1 < cLine := Nat.lt_of_le_of_lt (Nat.add_le_add_left (by decide : 1 ≤ 64) _) hu
    refine ⟨_, (pss_cons (ps_set (i := 5) sc_L_due_right.nd rfl (Or.inl rfl) (px_call G_last (hr.mono (by decide)) (by rfl) (pa_cons (pv 1) (pa_cons (pv 2) (pa_cons (pv 3) (pa_cons (pv 4) pa_nil)))))) (pss_cons (ps_if (pt_cmpR op_gt (pv 5) (pe_callB (call_min2 rfl) (by rfl) T.min b_min (pa_cons pe_int (pa_cons (pe_op op_add (pe_ix ix_tup (pe_ix ix_tup (pv 1) pe_int (fun _ _ => rfl)) pe_int (fun _ _ => rfl)) pe_int) pa_nil))) (nomark _)) (pss_one (ps_ret pe_bl)) pss_nil) (pss_cons (ps_if (pt_cmpR (op_neN hu) (px_call G_L_stands (hr.mono (by decide)) (by rfl) (pa_cons (px_call G_rude (hr.mono (by decide)) (by rfl) (pa_cons (pv 1) (pa_cons (pv 2) (pa_cons (pe_op op_sub (pv 5) pe_int) pa_nil)))) (pa_cons (pv 4) pa_nil))) (pe_lst pa_nil) (nomark _)) (pss_one (ps_ret pe_bl)) pss_nil) (pss_cons (ps_for PassesOwn.never rfl (pi_tup (pe_tup (pa_cons (pv 5) (pa_cons (pe_op op_add (pv 5) pe_int) pa_nil)))) (pg_name (i := 6) sc_L_due_right.nd rfl (Or.inl rfl)) (pss_one (ps_if (pt_cmpR op_ne (pe_callB (call_repr1 hgd hu) (by rfl) T.repr b_repr (pa_cons (pe_lc (own := [("_law_paper", 7)]) rfl sc_L_due_right.nd (pi_list (px_call G_L_stands (hr.mono (by decide)) (by rfl) (pa_cons (px_call G_rude (hr.mono (by decide)) (by rfl) (pa_cons (pv 1) (pa_cons (pv 2) (pa_cons (pv 6) pa_nil)))) (pa_cons (pv 4) pa_nil)))) (blkOk_by (own := [("_law_paper", 7)]) (N := ["_law_feed_here", "_law_book_here", "_law_terms", "_law_day", "_law_due", "_law_far", "_law_one", "_law_paper", "_law_page_here", "_law_told"]) (sc := defScope s_L_due_right) (by decide +kernel)) (fun _ _ _ _ _ => (pg_name (i := 7) sc_L_due_right.nd rfl (Or.inl rfl))) (fun _ _ _ _ _ => pts_nil) (fun _ _ _ _ _ => (pe_ix (r := rIxT K) ix_tup (pv 7) pe_int (fun _ _ => rfl)))) pa_nil)) (pe_callB (call_repr1 hgd hu) (by rfl) T.repr b_repr (pa_cons (pe_lst (pa_cons (pv 5) pa_nil)) pa_nil)) (nomark _)) (pss_one (ps_ret pe_bl)) pss_nil))) (pss_cons (ps_set (i := 8) sc_L_due_right.nd rfl (Or.inl rfl) (px_call G_L_paying (hr.mono (by decide)) (by rfl) (pa_cons (pv 0) (pa_cons (pv 1) (pa_cons (pv 2) (pa_cons (pv 3) (pa_cons (pv 4) (pa_cons (pv 5) pa_nil)))))))) (pss_cons (ps_if (pt_cmpR op_isN (pv 8) pe_non (nomark _)) (pss_one (ps_ret pe_bl)) pss_nil) (pss_cons (ps_set (i := 9) sc_L_due_right.nd rfl (Or.inl rfl) (pe_callTy call_tuple_of (by rfl) T.tuple b_tuple (pa_cons (pe_callBK (cr_sortK rfl FK (hr.mono (by decide)) bK rfl hspK halK hdK) (by rfl) T.sorted b_sorted (pa_cons (pe_op op_catA (pv 1) (pe_tup (pa_cons (pv 8) pa_nil))) pa_nil) (pk_cons (pe_glob (v := .ref fK) (by rfl) mK rfl) pk_nil)) pa_nil))) (pss_cons (ps_for PassesOwn.never rfl (pi_tup (pe_tup (pa_cons (pe_op op_sub (pe_ix ix_tup (pv 8) pe_int (fun _ _ => rfl)) pe_int) (pa_cons (pe_ix ix_tup (pv 8) pe_int (fun _ _ => rfl)) (pa_cons (pv 5) (pa_cons (pe_op op_add (pv 5) pe_int) pa_nil)))))) (pg_name (i := 6) sc_L_due_right.nd rfl (Or.inl rfl)) (pss_cons (ps_if (pt_cmpR (op_neN hu) (px_call G_L_stands (hr.mono (by decide)) (by rfl) (pa_cons (px_call G_rude (hr.mono (by decide)) (by rfl) (pa_cons (pv 9) (pa_cons (pv 2) (pa_cons (pv 6) pa_nil)))) (pa_cons (pv 4) pa_nil))) (pe_lst pa_nil) (nomark _)) (pss_one (ps_ret pe_bl)) pss_nil) (pss_one (ps_if (pt_cmpR op_ne (pe_cmpR (op_neN hu) (px_call G_L_stands (hr.mono (by decide)) (by rfl) (pa_cons (px_call G_dues (hr.mono (by decide)) (by rfl) (pa_cons (pv 9) (pa_cons (pv 2) (pa_cons (pv 6) pa_nil)))) (pa_cons (pv 4) pa_nil))) (pe_lst pa_nil) (nomark _)) (pe_cmpR op_lt (pv 6) (pe_ix ix_tup (pv 8) pe_int (fun _ _ => rfl)) (nomark _)) (nomark _)) (pss_one (ps_ret pe_bl)) pss_nil)))) (pss_one (ps_ret pe_bl)))))))))), ?_⟩
    have t60 : t.1 ≤ 60 ∧ t.2 ≤ 60 := ⟨ht.2.1, ht.2.2.2⟩
    have t1 : 1 ≤ t.1 ∧ 1 ≤ t.2 := ⟨ht.1, ht.2.2.1⟩
    have ok0 := g.duesOk t60 (last := day) ⟨d0, by omega⟩
    obtain ⟨Kf, hk⟩ := least_ex (walkEnd bk t day).1.mourned (tell (walkEnd bk t day).1 d) day ((tell (walkEnd bk t day).1 d).left t) (by omega)
    have far := far_of hl hk
    have Kpos := far.pos
    refine q_asg (P := fun v _ => v = .int (day + (Kf : Int))) (ep_callE (A := fun vs H2 => FzA H2 vs [.tup (bk.map Page.key), .tup [.num t.1, .num t.2], .num day, (tell (walkEnd bk t day).1 d).key]) (ea_cons (ef_var (i := 1) rfl fB) (ea_cons (ef_var (i := 2) rfl fT) (ea_cons (ef_of_int (ev_var (i := 3) rfl)) (ea_cons (ef_var (i := 4) rfl fD) ea_nil)))) fun vs H2 s2 fa Q2 q2 => ?_) fun v1 H1 s1 e1 => ?_
    · obtain ⟨u1, u2, u3, u4, rfl, g1, g2, g3, g4⟩ := fa.four_inv
      obtain rfl := g3.int_inv
      exact ⟨u1, u2, bk, t, day, u4, d, Kf, rfl, g1, g2, ok0.bk, ok0.fit, ok0.inb, hd, g4, by omega, hk, fun H' s => q2 _ H' s rfl⟩
    subst e1
    have fd1 := fd.sm s1
    have fB1 := fB.sm s1
    have fT1 := fT.sm s1
    have fD1 := fD.sm s1
    obtain ⟨p0, br, ebk⟩ := List.exists_cons_of_ne_nil hne
    refine q_if (et_test (ev_I0 (g := fun i j => .bl (decide (j < i))) (ev_var (i := 5) rfl) (ev_min2 ev_c (ev_I0 (g := fun i j => .int (i + j)) (ev_of_int (ef_ix (ks := p0.items) (ef_ix (k := p0.key) (ef_var (i := 1) rfl fB1) ev_c (atI_of (n := 0) (by rw [ebk] <;> rfl))) ev_c (atI_of (n := 1) rfl))) ev_c)))) (fun _ H2 s2 => s_ret ev_c fun v H3 s3 e => ?_) (fun hb H2 s2 => ?_)
    · subst e
      exact q H3 (.of_same ((s1.trans s2).trans s3)) ((fd1.sm (s2.trans s3)).mono (by omega))
    have hfar : day + (Kf : Int) ≤ 9990 := by
      have := of_decide_eq_false hb
      split at this <;> omega
    clear hb
    have fd2 := fd1.sm s2
    have fB2 := fB1.sm s2
    have fT2 := fT1.sm s2
    have fD2 := fD1.sm s2
    refine q_if (b := false) (et_neN (K := K) (ks := []) ((ep_standR (e := tell (walkEnd bk t day).1 d) (X := day + (Kf : Int) - 1) (g.duesOk t60 ⟨by omega, by omega⟩) t1 (ef_var (i := 1) rfl fB2) (ef_var (i := 2) rfl fT2) (ev_I0 (g := fun i j => .int (i - j)) (ev_var (i := 5) rfl) ev_c) (ef_var (i := 4) rfl fD2) (fun ds hp => rude_before g hne t60 hle hd far hp)).imp fun v H' _ h => h.ln.lf)) (fun h => by cases h) (fun _ H3 s3 => ?_)
    have fd3 := fd2.sm s3
    have fB3 := fB2.sm s3
    have fT3 := fT2.sm s3
    have fD3 := fD2.sm s3
    refine q_forT (ks := [.num (day + (Kf : Int)), .num (day + (Kf : Int) + 2)]) (ef_tup (ea_cons (ef_of_int (ev_var (i := 5) rfl)) (ea_cons (ef_of_int (ev_I0 (g := fun i j => .int (i + j)) (ev_var (i := 5) rfl) ev_c)) ea_nil))) fun a4 xs4 H4 s4 hx4 fx4 => ?_
    have fd4 := fd3.sm s4
    have fB4 := fB3.sm s4
    have fT4 := fT3.sm s4
    have fD4 := fD3.sm s4
    refine ⟨fun i σ' H' => (∃ z6 z7, σ' = [some (.ref f), some vB, some vT, some (.int day), some vd, some (.int (day + (Kf : Int))), z6, z7, none, none]) ∧ Same H4 H', ⟨⟨none, none, rfl⟩, .refl _⟩, fun i σ' H' p => .of_same p.2, fun i j x σ' H' hj fj ⟨⟨z6, z7, es⟩, s5⟩ => ?_, fun σ' H' ⟨⟨z6, z7, es⟩, s5⟩ => ?_⟩
    · subst es
      have hjj : ∃ jj : Nat, jj ≤ 2 ∧ j = .num (day + (Kf : Int) + (jj : Int)) := by
        match i, hj with
        | 0, hj => exact ⟨0, by decide, by cases hj; simp⟩
        | 1, hj => exact ⟨2, by decide, by cases hj; rfl⟩
      obtain ⟨jj, hj2, rfl⟩ := hjj
      obtain rfl := fj.int_inv
      dsimp only [gName]
      have fB5 := fB4.sm s5
      have fT5 := fT4.sm s5
      have fD5 := fD4.sm s5
      have st := ep_standR (K := K) (σ := [some (.ref f), some vB, some vT, some (.int day), some vd, some (.int (day + (Kf : Int))), some (.int (day + (Kf : Int) + (jj : Int))), z7, none, none]) (e := tell (walkEnd bk t day).1 d) (X := day + (Kf : Int) + (jj : Int)) (g.duesOk t60 ⟨by omega, by omega⟩) t1 (ef_var (i := 1) rfl fB5) (ef_var (i := 2) rfl fT5) (ev_var (i := 6) rfl) (ef_var (i := 4) rfl fD5) (fun ds hp => rude_after g hne t60 hle hd far jj hp)
      refine s_if (b := false) ((et_test (ev_neS (ev_repr1 (n := day + (Kf : Int)) (by omega) ((el_lcL (K := K) (js := [.tup [.text d.1.ower, .text d.1.owed, d.1.page.key, .num (day + (Kf : Int))]]) (fun _ => true) (fun _ => .num (day + (Kf : Int))) (st.imp fun v H' _ h => h.ln.lf) (by show (1 : Nat) ≤ 90000; decide) (fun _ => rfl) (fun x k H6 hk s6 fx => et_yes) (fun x k H6 hk s6 fx _ => ?_)).imp fun v H' _ h => h.ln.lf)) (ev_repr1 (n := day + (Kf : Int)) (by omega) ((el_lst (ea_cons (ef_of_int (ev_var (i := 5) rfl)) ea_nil)).imp fun v H' _ h => h.lf)))).of (by simp)) (fun h => by cases h) (fun _ H6 s6 => ⟨⟨_, _, rfl⟩, s5.trans s6⟩)
      obtain rfl := List.mem_singleton.mp hk
      exact ef_ix (ef_var (i := 7) rfl fx) (ev_c (v := .int 3)) (atI_of (n := 3) rfl)
    · subst es
      have ss5 := (((s1.trans s2).trans s3).trans s4).trans s5
      have fd5 := fd4.sm s5
      have fB5 := fB4.sm s5
      have fT5 := fT4.sm s5
      have fD5 := fD4.sm s5
      refine seqi ?_
      refine ⟨_, rfl, _, rfl, _, rfl, _, rfl, _, rfl, _, rfl, ?_⟩
      refine ⟨f, l, N, vB, vT, vd, bk, t, day, d, Kf, rfl, fd5, hN, fB5, fT5, fD5, ⟨g, r, hz, hne, t60, hle, d0, by omega, Kpos, hd⟩, fun H6 k6 fd6 => ?_, fun v8 H6 X n k6 fd6 f8 hX hX1 hm hn => ?_⟩
      · dsimp only [gName]
        refine q_if (b := true) (et_test (ev_isN (v := .non) (ev_var (i := 8) rfl))) (fun _ H7 s7 => s_ret ev_c fun v H8 s8 e => ?_) (fun h => by cases h)
        subst e
        exact q H8 (((Kp.of_same ss5).trans k6).trans (.of_same (s7.trans s8))) (fd6.sm (s7.trans s8))
      · dsimp only [gName]
        have tk6 := fd5.tk k6
        have fB6 := fB5.tk tk6
        have fT6 := fT5.tk tk6
        have fD6 := fD5.tk tk6
        have kk6 := (Kp.of_same ss5).trans k6
        obtain ⟨a8, xs8, rfl, _, _⟩ := f8.tup_inv
        refine q_if (b := false) (et_test (ev_isN (v := .ref a8) (ev_var (i := 8) rfl))) (fun h => by cases h) (fun _ H7 s7 => ?_)
        have gP : Good (paidBook bk t day d X) := g.snoc (by omega) (by omega) (by omega) fun p hp => by have := hle p hp; omega
        have eS : sortP (bk ++ [Page.going (tell (walkEnd bk t day).1 d).sort X d.1.ower d.1.owed]) = paidBook bk t day d X := sortP_last r (pg := .going (tell (walkEnd bk t day).1 d).sort X d.1.ower d.1.owed) fun p hp => by
          have := hle p hp
          show p.day < X
          omega
        refine q_asg (P := fun v H => Fz H v (.tup ((paidBook bk t day d X).map Page.key))) ((ef_sortP (K := K) (ps := bk ++ [Page.going (tell (walkEnd bk t day).1 d).sort X d.1.ower d.1.owed]) ((ef_cat (K := K) (ef_var (i := 1) rfl (fB6.sm s7)) (ef_tup (ea_cons (ef_var (i := 8) rfl (f8.sm s7)) ea_nil)) (by rw [List.length_map]; show bk.length + 1 ≤ 100000; omega)).ofF (by rw [List.map_append] <;> rfl))).ofF (by rw [eS])) fun v9 H8 s8 f9 => ?_
        have fd8 := (fd6.sm s7).sm s8
        have fT8 := (fT6.sm s7).sm s8
        have fD8 := (fD6.sm s7).sm s8
        have f88 := (f8.sm s7).sm s8
        have ix8 : ∀ (σ : St) (H' : Hp), Same H8 H' → σ[8]? = some (some (.ref a8)) → EvV (tOp (rIxT K) (tVar 8) (tC (.int 1))) σ H' (.int X) := fun σ H' s e => ev_of_int (pg_ix (i := 8) (n := 1) e (f88.sm s) rfl)
        refine q_forT (ks := [.num (X - 1), .num X, .num (day + (Kf : Int)), .num (day + (Kf : Int) + 2)]) (ef_tup (ea_cons (ef_of_int (ev_I0 (g := fun i j => .int (i - j)) (ix8 _ _ (.refl _) rfl) ev_c)) (ea_cons (ef_of_int (ix8 _ _ (.refl _) rfl)) (ea_cons (ef_of_int (ev_var (i := 5) rfl)) (ea_cons (ef_of_int (ev_I0 (g := fun i j => .int (i + j)) (ev_var (i := 5) rfl) ev_c)) ea_nil))))) fun a10 xs10 H10 s10 hx10 fx10 => ?_
        refine ⟨fun i σ' H' => (∃ z6 z7, σ' = [some (.ref f), some vB, some vT, some (.int day), some vd, some (.int (day + (Kf : Int))), z6, z7, some (.ref a8), some v9]) ∧ Same H10 H', ⟨⟨_, _, rfl⟩, .refl _⟩, fun i σ' H' p => .of_same p.2, fun i j x σ' H' hj fj ⟨⟨z6, z7, es⟩, s11⟩ => ?_, fun σ' H' ⟨⟨z6, z7, es⟩, s11⟩ => ?_⟩
        · subst es
          have hY : ∃ (Y : Int) (b : Bool), j = .num Y ∧ decide (Y < X) = b ∧ 0 ≤ Y ∧ Y ≤ 20000 ∧ (∀ ds : List Told, ds.Perm (toldL (paidBook bk t day d X) t Y) → ((ds.filter fun e => decide (e.left t = 0)).map rudeK).filter (standB (tell (walkEnd bk t day).1 d)) = []) ∧ (∀ ds : List Told, ds.Perm (toldL (paidBook bk t day d X) t Y) → ((ds.map Told.key).filter (standB (tell (walkEnd bk t day).1 d))).isEmpty = (!b)) := by
            have late : ∀ k : Nat, X + (k : Int) ≤ 20000 → j = .num (X + (k : Int)) → ∃ (Y : Int) (b : Bool), j = .num Y ∧ decide (Y < X) = b ∧ 0 ≤ Y ∧ Y ≤ 20000 ∧ (∀ ds : List Told, ds.Perm (toldL (paidBook bk t day d X) t Y) → ((ds.filter fun e => decide (e.left t = 0)).map rudeK).filter (standB (tell (walkEnd bk t day).1 d)) = []) ∧ (∀ ds : List Told, ds.Perm (toldL (paidBook bk t day d X) t Y) → ((ds.map Told.key).filter (standB (tell (walkEnd bk t day).1 d))).isEmpty = (!b)) := by
              intro k h1 h2
              have gone := pay_gone hne hle hd hX hm hn k
              refine ⟨_, false, h2, decide_eq_false (by omega), by omega, h1, fun ds hp => (told_gone (d := tell (walkEnd bk t day).1 d) gone hp).2, fun ds hp => ?_⟩
              rw [(told_gone (d := tell (walkEnd bk t day).1 d) gone hp).1]
              rfl
            match i, hj with
            | 0, hj =>
              refine ⟨X - 1, true, by cases hj; rfl, decide_eq_true (by omega), by omega, by omega, fun ds hp => pay_rude g hne t60 hle hd hX far hX1 hp, fun ds hp => ?_⟩
              have := told_there (d := tell (walkEnd bk t day).1 d) (pay_there hne hle hd hX) hp
              exact List.isEmpty_eq_false_iff.mpr this
            | 1, hj => exact late 0 (by omega) (by cases hj; simp)
            | 2, hj => exact late (day + (Kf : Int) - X).toNat (by omega) (by cases hj; congr 1; omega)
            | 3, hj => exact late (day + (Kf : Int) + 2 - X).toNat (by omega) (by cases hj; congr 1; omega)
          obtain ⟨Y, b, rfl, hb, y0, y1, hR, hD⟩ := hY
          obtain rfl := fj.int_inv
          dsimp only [gName]
          have okP := gP.duesOk t60 (last := Y) ⟨y0, by omega⟩
          have sA := s10.trans s11
          refine q_if (b := false) (et_neN (K := K) (ks := []) ((ep_standR (e := tell (walkEnd bk t day).1 d) okP t1 (ef_var (i := 9) rfl (f9.sm sA)) (ef_var (i := 2) rfl (fT8.sm sA)) (ev_var (i := 6) rfl) (ef_var (i := 4) rfl (fD8.sm sA)) hR).imp fun v H' _ h => h.ln.lf)) (fun h => by cases h) (fun _ H12 s12 => ?_)
          have sB := sA.trans s12
          refine s_if (b := false) ((et_test (ev_neB (ev_neNb (K := K) (b := b) (ep_standD (e := tell (walkEnd bk t day).1 d) okP (ef_var (i := 9) rfl (f9.sm sB)) (ef_var (i := 2) rfl (fT8.sm sB)) (ev_var (i := 6) rfl) (ef_var (i := 4) rfl (fD8.sm sB)) hD)) (ev_I0 (g := fun i j => .bl (decide (i < j))) (ev_var (i := 6) rfl) (ix8 _ _ sB rfl)))).of (by rw [hb]; simp)) (fun h => by cases h) (fun _ H13 s13 => ⟨⟨_, _, rfl⟩, (s11.trans s12).trans s13⟩)
        · subst es
          refine s_ret ev_c fun v H12 s12 e => ?_
          subst e
          have ss := (((s7.trans s8).trans s10).trans s11).trans s12
          exact q H12 (kk6.trans (.of_same ss)) (fd6.sm ss)
end
end K34
namespace K34
open PySem PySem.Spec L2

section
variable {P : Program} {w : World} {K : PySem.W.Frag} {mg : Str → Option Value} {base : Heap} {CH CW aK aA aG : Addr} {H H' : Hp} {σ : St} {te : TE} {x y : V}
theorem cut_mem {ks : List NestedKey} {lo hi : Option Int} {k : NestedKey} (h : k ∈ cutK ks lo hi) : k ∈ ks := by
  unfold cutK at h
  exact List.mem_of_mem_drop (List.mem_of_mem_take h)
theorem cut_len {ks : List NestedKey} : (cutK ks none (some 2)).length ≤ 2 := by
  unfold cutK
  have e1 : HT.sIx ks.length 0 none = 0 := rfl
  rw [e1, List.length_take]
  refine Nat.le_trans (Nat.min_le_left _ _) ?_
  unfold HT.sIx
  simp
  omega
def spLaw (K : PySem.W.Frag) : Sp := fun vs H Q _ => ∃ (v : Addr) (ns : List Int), vs = [.ref v] ∧ SqL K H v (ns.map V.int) ∧ ∀ H', Q (.bl true) H'
theorem sc_law : FnScope ["_law_script", "_law_feed_here", "_law_book_here", "_law_terms", "_law_days", "_law_day", "_law_page_here", "_law_some", "_law_due"] ["_law_script"] (defScope s_law) := ⟨rfl, rfl, rfl, by decide +kernel, rfl, by decide +kernel, by decide +kernel⟩
theorem ok_law (T : Txt K mg CH CW aK aA aG) (D : Dat K mg "law" "law" s_law ["_law_script"]) (G_L_feed : OK P w K mg base 1 "_law_feed" ["_law_script"] (spFeed K)) (G_L_case : OK P w K mg base 9 "_law_case" ["_law_feed_here"] spCase) (G_dues : OK P w K mg base 15 "dues" ["book", "terms", "day"] (spDues P w)) (G_left : OK P w K mg base 3 "left" ["terms", "due"] (fspR leftR))
    (G_L_due_right : GOK P w K mg base 21 "_law_due_right" ["_law_feed_here", "_law_book_here", "_law_terms", "_law_day", "_law_due"] spDueRight) : GOK P w K mg base 23 "law" ["_law_script"] (spLaw K) := by
  refine gok_mk D sc_law (fun vs H Q E h => ?_) (fun f0 cdv A outer s H vs Q E hgd hr h => ?_)
  · obtain ⟨v, ns, rfl, _⟩ := h
    rfl
  · obtain ⟨v, ns, rfl, hx, q⟩ := h
    have hu := hr.units
    have hu0 := hr.units0
    have hu1 : _ + 1 < cLine := Nat.lt_of_le_of_lt (Nat.add_le_add_left (by decide : 1 ≤ 64) _) hu
    refine ⟨_, (pss_cons (ps_set (i := 1) sc_law.nd rfl (Or.inl rfl) (px_call G_L_feed (hr.mono (by decide)) (by rfl) (pa_cons (pv 0) pa_nil))) (pss_cons (ps_asg (px_call G_L_case (hr.mono (by decide)) (by rfl) (pa_cons (pv 1) pa_nil)) (pg_tup rfl (pgs_cons (pg_name (i := 2) sc_law.nd rfl (Or.inl rfl)) (pgs_cons (pg_name (i := 3) sc_law.nd rfl (Or.inr rfl)) (pgs_cons (pg_name (i := 4) sc_law.nd rfl (Or.inl rfl)) pgs_nil))))) (pss_cons (ps_set (i := 5) sc_law.nd rfl (Or.inr rfl) (pe_ix ix_list (pv 4) pe_int (fun _ _ => rfl))) (pss_cons (ps_set (i := 2) sc_law.nd rfl (Or.inl rfl) (pe_callTy call_tuple_of (by rfl) T.tuple b_tuple (pa_cons (pe_lc (own := [("_law_page_here", 6)]) rfl sc_law.nd (pi_tup (pv 2)) (blkOk_by (own := [("_law_page_here", 6)]) (N := ["_law_script", "_law_feed_here", "_law_book_here", "_law_terms", "_law_days", "_law_day", "_law_page_here", "_law_some", "_law_due"]) (sc := defScope s_law) (by decide +kernel)) (fun _ _ _ _ _ => (pg_name (i := 6) sc_law.nd rfl (Or.inl rfl))) (fun _ _ _ _ _ => (pts_one (pt_cmpR op_le (pe_ix (r := rIxT K) ix_tup (pv 6) pe_int (fun _ _ => rfl)) (pv 5) (nomark _)))) (fun _ _ _ _ _ => (pv 6))) pa_nil))) (pss_cons (ps_setLc (i := 7) (own := [("_law_due", 8)]) rfl sc_law.nd rfl rfl (sw_true rfl rfl rfl (by decide +kernel)) (pi_list (px_call G_dues (hr.mono (by decide)) (by rfl) (pa_cons (pv 2) (pa_cons (pv 3) (pa_cons (pv 5) pa_nil))))) (blkOk_by (own := [("_law_due", 8)]) (N := ["_law_script", "_law_feed_here", "_law_book_here", "_law_terms", "_law_days", "_law_day", "_law_page_here", "_law_some", "_law_due"]) (sc := defScope s_law) (by decide +kernel)) (fun _ _ _ _ _ => (pg_name (i := 8) sc_law.nd rfl (Or.inl rfl))) (fun _ _ _ _ _ => (pts_one (pt_cmpR op_gt (px_call G_left (hr.mono (by decide)) (by rfl) (pa_cons (pv 3) (pa_cons (pv 8) pa_nil))) pe_int (nomark _)))) (fun _ _ _ _ _ => (pv 8))) (pss_cons (ps_for PassesOwn.never rfl (pi_list (pe_slice sl_list (pv 7) po_none (po_some pe_int))) (pg_name (i := 8) sc_law.nd rfl (Or.inl rfl)) (pss_one (ps_if (pt_not (pt_val (px_callG G_L_due_right hgd (hr.mono (by decide)) (by rfl) (pa_cons (pv 1) (pa_cons (pv 2) (pa_cons (pv 3) (pa_cons (pv 5) (pa_cons (pv 8) pa_nil)))))))) (pss_one (ps_ret pe_bl)) pss_nil))) (pss_one (ps_ret pe_bl)))))))), ?_⟩
    refine seqi ?_
    refine ⟨_, rfl, v, ns, rfl, hx, fun f l H1 s1 hf hl fd1 => ?_⟩
    dsimp only [gName]
    refine seqi ?_
    refine ⟨_, rfl, f, l, 0, rfl, fd1, by decide, fun a H2 vB vT dl bk t ds k2 fd2 ha hdl dlen fB fT cb bne ht hds => ?_⟩
    refine ⟨a, _, rfl, sqT_of ha, rfl, _, _, rfl, _, _, rfl, _, _, rfl, rfl, ?_⟩
    obtain ⟨day, dr, rfl⟩ : ∃ day dr, ds = day :: dr := by
      cases ds with
      | nil => cases dlen
      | cons day dr => exact ⟨day, dr, rfl⟩
    have hday := hds day List.mem_cons_self
    have lfd : LF K H2 (.ref dl) (ik (day :: dr)) := ⟨dl, _, rfl, sqL_of hdl, FzA.of_ints _⟩
    refine q_asg (P := fun v _ => v = .int day) (ev_of_int (ef_ixL (K := K) (ep_var (i := 4) (P := fun v H => LF K H v (ik (day :: dr))) rfl kp_lf lfd) (ev_c (v := .int 0)) (atI_of (n := 0) rfl))) fun v3 H3 s3 e3 => ?_
    subst e3
    obtain ⟨g0, r0, z0, le0⟩ := cb.good
    have fB3 := fB.sm s3
    have fT3 := fT.sm s3
    have fd3 := fd2.sm s3
    have lc := el_lcT (K := K) (σ := [some (.ref v), some (.ref f), some vB, some vT, some (.ref dl), some (.int day), none, none, none]) (H := H3) (tl := tVar 2) (vs := [6]) (j := 6) (tt := tTest (tOp (rI0 fun i j => .bl (decide (i ≤ j))) (tOp (rIxT K) (tVar 6) (tC (.int 1))) (tVar 5))) (te := tVar 6) (js := bk.map Page.key) (fun k => decide (dayOf k ≤ day)) id (ef_var rfl fB3) (by rw [List.length_map]; omega) (fun _ => rfl) (fun x k H12 hk s12 fx => by
      obtain ⟨pg, _, rfl⟩ := List.mem_map.mp hk
      exact et_test (ev_I0 (g := fun i j => .bl (decide (i ≤ j))) (ev_of_int (pg_ix (K := K) (i := 6) (n := 1) (pg := pg) rfl fx rfl)) (ev_var (i := 5) rfl))) (fun x k H12 hk s12 fx _ => ef_var rfl fx)
    refine q_asg (P := fun v H => Fz H v (.tup ((bk.filter fun p => decide (p.day ≤ day)).map Page.key))) (ef_tupleL (lc.imp fun v H _ h => ?_)) fun v4 H4 s4 fB4 => ?_
    · have h := h.ln.lf (K := K)
      rw [List.map_id, filter_day bk fun d => decide (d ≤ day)] at h
      exact h
    have gs : Good (bk.filter fun p => decide (p.day ≤ day)) := g0.sub List.filter_sublist
    have rs : Ranked (bk.filter fun p => decide (p.day ≤ day)) := r0.sublist List.filter_sublist
    have zs : (bk.filter fun p => decide (p.day ≤ day)).length ≤ 40 := Nat.le_trans (List.length_filter_le _ _) z0
    have les : ∀ p ∈ bk.filter fun p => decide (p.day ≤ day), p.day ≤ day := fun p hp => of_decide_eq_true (List.mem_filter.mp hp).2
    generalize (bk.filter fun p => decide (p.day ≤ day)) = B at *
    have t60 : t.1 ≤ 60 ∧ t.2 ≤ 60 := ⟨ht.2.1, ht.2.2.2⟩
    have ok0 := gs.duesOk t60 (last := day) ⟨hday.1, by omega⟩
    have fT4 := fT3.sm s4
    have fd4 := fd3.sm s4
    refine q_asg (P := fun v H' => ∃ ds : List Told, ds.Perm (toldL B t day) ∧ LF K H' v ((ds.filter fun e : Told => decide ((0 : Int) < e.left t)).map Told.key)) (fun H5 s5 Q5 q5 => ?_) fun v7 H7 s7 ⟨ts, hp, lf7⟩ => ?_
    · refine ep_dues (P := P) (w := w) (E := E0) (t := tCons (tVar 2) (tCons (tVar 3) (tCons (tVar 5) tNil))) (σ := [some (.ref v), some (.ref f), some v4, some vT, some (.ref dl), some (.int day), none, none, none]) ok0 (ea_cons (ef_var rfl (fB4.sm s5)) (ea_cons (ef_var rfl (fT4.sm s5)) (ea_cons (ef_of_int (ev_var rfl)) ea_nil))) H5 (.refl _) _ fun v6 H6 s6 ⟨ts, hp, lw⟩ => ?_
      obtain ⟨L, ys, rfl, hnL, hL, fL⟩ := lw
      have fT6 := (fT4.sm s5).sm s6
      have B2 := el_lcL (K := K) (σ := [some (.ref v), some (.ref f), some v4, some vT, some (.ref dl), some (.int day), none, none, none]) (H := H6) (tl := fun σ H Q => Q (.ref L) H) (vs := [8]) (j := 8) (tt := tTest (tOp (rI0 fun i j => .bl (decide (j < i))) (tCall (fspR leftR) [] E0 (tCons (tVar 3) (tCons (tVar 8) tNil))) (tC (.int 0)))) (te := tVar 8) (js := ts.map Told.key) (fun k => decide (0 < (toldOf k).left t)) id (fun H7 s7 Q7 q7 => q7 _ H7 (.refl _) ⟨L, ys, rfl, sqL_of (s7 _ _ hL), fL.sm s7⟩) (by
          rw [List.length_map]
          have := told_len ok0 hp
          omega) (fun _ => rfl) (fun z k H7 hk s7 fz => by
            obtain ⟨e, _, rfl⟩ := List.mem_map.mp hk
            rw [toldOf_key]
            exact et_test (ev_I0 (g := fun i j => .bl (decide (j < i))) (ev_of_int (ef_callR (ea_cons (ef_var (i := 3) rfl (fT6.sm s7)) (ea_cons (ef_var (i := 8) rfl fz) ea_nil)) ⟨t, e, rfl, rfl⟩)) ev_c)) (fun z k H7 hk s7 fz _ => ef_var rfl fz)
      rw [List.map_id, filter_told ts fun e : Told => decide ((0 : Int) < e.left t)] at B2
      exact B2 H6 (.refl _) _ fun v7 H7 s7 lw => q5 v7 H7 (s6.trans s7) ⟨ts, hp, lw.ln.lf⟩
    have fd7 := fd4.sm s7
    have fB7 := fB4.sm s7
    have fT7 := fT4.sm s7
    refine q_forL (P := fun v H => LN H v (cutK ((ts.filter fun e : Told => decide ((0 : Int) < e.left t)).map Told.key) none (some 2))) (fun v H h => h.lf) ((el_slL (ep_var (i := 7) (P := fun v H => LF K H v ((ts.filter fun e : Told => decide ((0 : Int) < e.left t)).map Told.key)) rfl kp_lf lf7) eo_none (eo_some (ev_c (v := .int 2)))).imp fun v H' _ h => h.ln) fun a8 xs8 H8 s8 _ hx8 fx8 => ?_
    have fd8 := fd7.sm s8
    have fB8 := fB7.sm s8
    have fT8 := fT7.sm s8
    refine ⟨fun i σ' H' => (∃ z6 z8, σ' = [some (.ref v), some (.ref f), some v4, some vT, some (.ref dl), some (.int day), z6, some v7, z8]) ∧ Kp f H8 H' ∧ FeedAt H' f l (0 + 800 + i), ⟨⟨_, _, rfl⟩, .refl _ _, fd8⟩, fun i σ' H' p => ⟨fd8.tk p.2.1, sqL_kp fd8 p.2.1 hx8⟩, fun i j x σ' H' hj fj ⟨⟨z6, z8, es⟩, k9, fd9⟩ => ?_, fun σ' H' ⟨⟨z6, z8, es⟩, k9, fd9⟩ => ?_⟩
    · subst es
      dsimp only [gName]
      have hi : i < 2 := Nat.lt_of_lt_of_le (List.getElem?_eq_some_iff.mp hj).1 cut_len
      obtain ⟨e, he, rfl⟩ := List.mem_map.mp (cut_mem (List.mem_of_getElem? hj))
      obtain ⟨he, hl0⟩ := List.mem_filter.mp he
      obtain ⟨d, hd, rfl⟩ := List.mem_map.mp (hp.mem_iff.mp he)
      have bne : B ≠ [] := fun z => by
        have := ok0.inb d.1 (List.mem_map_of_mem hd)
        rw [z] at this
        cases this
      have tk9 := fd8.tk k9
      refine ⟨_, rfl, _, rfl, _, rfl, _, rfl, _, rfl, ?_⟩
      refine ⟨f, l, 0 + 800 + i, v4, vT, x, B, t, day, d, rfl, fd9, by omega, fB8.tk tk9, fT8.tk tk9, fj, ht, gs, rs, zs, bne, les, hday.1, hday.2, hd, of_decide_eq_true hl0, fun H10 k10 fd10 => ?_⟩
      refine ⟨true, rfl, ?_⟩
      have fin : (∃ z7 z8, [some (V.ref v), some (.ref f), some v4, some vT, some (.ref dl), some (.int day), z6, some v7, some x] = [some (V.ref v), some (V.ref f), some v4, some vT, some (V.ref dl), some (V.int day), z7, some v7, z8]) ∧ Kp f H8 H10 ∧ FeedAt H10 f l (0 + 800 + (i + 1)) := ⟨⟨z6, some x, rfl⟩, k9.trans k10, fd10⟩
      exact fin
    · exact s_ret ev_c fun v H9 s9 e => by subst e; exact q H9
end
end K34
namespace K34
open PySem PySem.Spec PyProof.Rows L2
/-! ### what the top leaves -/
def d_page_day : He.DefD := ⟨("page_day", none), "page_day", "page_day", defArgs s_page_day, defBody s_page_day, defScope s_page_day, [], []⟩
def d_page_kind : He.DefD := ⟨("page_kind", none), "page_kind", "page_kind", defArgs s_page_kind, defBody s_page_kind, defScope s_page_kind, [], []⟩
def d_names_of : He.DefD := ⟨("names_of", none), "names_of", "names_of", defArgs s_names_of, defBody s_names_of, defScope s_names_of, [], []⟩
def d_place_of : He.DefD := ⟨("place_of", none), "place_of", "place_of", defArgs s_place_of, defBody s_place_of, defScope s_place_of, [], []⟩
def d_in_order : He.DefD := ⟨("in_order", none), "in_order", "in_order", defArgs s_in_order, defBody s_in_order, defScope s_in_order, [], []⟩
def d_with_page : He.DefD := ⟨("with_page", none), "with_page", "with_page", defArgs s_with_page, defBody s_with_page, defScope s_with_page, [], []⟩
def d_up_to : He.DefD := ⟨("up_to", none), "up_to", "up_to", defArgs s_up_to, defBody s_up_to, defScope s_up_to, [], []⟩
def d_Houses_init : He.DefD := ⟨("Houses", some "__init__"), "__init__", "Houses.__init__", defArgs s_Houses_init, defBody s_Houses_init, defScope s_Houses_init, [], []⟩
def d_Houses_can : He.DefD := ⟨("Houses", some "can"), "can", "Houses.can", defArgs s_Houses_can, defBody s_Houses_can, defScope s_Houses_can, [], []⟩
def d_Houses_come : He.DefD := ⟨("Houses", some "come"), "come", "Houses.come", defArgs s_Houses_come, defBody s_Houses_come, defScope s_Houses_come, [], []⟩
def d_Houses_do : He.DefD := ⟨("Houses", some "do"), "do", "Houses.do", defArgs s_Houses_do, defBody s_Houses_do, defScope s_Houses_do, [], []⟩
def d_Houses_meet : He.DefD := ⟨("Houses", some "meet"), "meet", "Houses.meet", defArgs s_Houses_meet, defBody s_Houses_meet, defScope s_Houses_meet, [], []⟩
def d_Houses_ask_standing : He.DefD := ⟨("Houses", some "ask_standing"), "ask_standing", "Houses.ask_standing", defArgs s_Houses_ask_standing, defBody s_Houses_ask_standing, defScope s_Houses_ask_standing, [], []⟩
def d_houses_behind : He.DefD := ⟨("houses_behind", none), "houses_behind", "houses_behind", defArgs s_houses_behind, defBody s_houses_behind, defScope s_houses_behind, [], []⟩
def d_home_of : He.DefD := ⟨("home_of", none), "home_of", "home_of", defArgs s_home_of, defBody s_home_of, defScope s_home_of, [], []⟩
def d_idle : He.DefD := ⟨("idle", none), "idle", "idle", defArgs s_idle, defBody s_idle, defScope s_idle, [], []⟩
def d_stays : He.DefD := ⟨("stays", none), "stays", "stays", defArgs s_stays, defBody s_stays, defScope s_stays, [], []⟩
def d_term_of : He.DefD := ⟨("term_of", none), "term_of", "term_of", defArgs s_term_of, defBody s_term_of, defScope s_term_of, [], []⟩
def d_Walk_init : He.DefD := ⟨("Walk", some "__init__"), "__init__", "Walk.__init__", defArgs s_Walk_init, defBody s_Walk_init, defScope s_Walk_init, [], []⟩
def d_Walk_mourns : He.DefD := ⟨("Walk", some "mourns"), "mourns", "Walk.mourns", defArgs s_Walk_mourns, defBody s_Walk_mourns, defScope s_Walk_mourns, [], []⟩
def d_Walk_is_met : He.DefD := ⟨("Walk", some "is_met"), "is_met", "Walk.is_met", defArgs s_Walk_is_met, defBody s_Walk_is_met, defScope s_Walk_is_met, [], []⟩
def d_Walk_go : He.DefD := ⟨("Walk", some "go"), "go", "Walk.go", defArgs s_Walk_go, defBody s_Walk_go, defScope s_Walk_go, [], []⟩
def d_Walk_part : He.DefD := ⟨("Walk", some "part"), "part", "Walk.part", defArgs s_Walk_part, defBody s_Walk_part, defScope s_Walk_part, [], []⟩
def d_Walk_join : He.DefD := ⟨("Walk", some "join"), "join", "Walk.join", defArgs s_Walk_join, defBody s_Walk_join, defScope s_Walk_join, [], []⟩
def d_Walk_lay : He.DefD := ⟨("Walk", some "lay"), "lay", "Walk.lay", defArgs s_Walk_lay, defBody s_Walk_lay, defScope s_Walk_lay, [], []⟩
def d_Walk_put : He.DefD := ⟨("Walk", some "put"), "put", "Walk.put", defArgs s_Walk_put, defBody s_Walk_put, defScope s_Walk_put, [], []⟩
def d_Walk_fall : He.DefD := ⟨("Walk", some "fall"), "fall", "Walk.fall", defArgs s_Walk_fall, defBody s_Walk_fall, defScope s_Walk_fall, [], []⟩
def d_Walk_go_to : He.DefD := ⟨("Walk", some "go_to"), "go_to", "Walk.go_to", defArgs s_Walk_go_to, defBody s_Walk_go_to, defScope s_Walk_go_to, [], []⟩
def d_Walk_places : He.DefD := ⟨("Walk", some "places"), "places", "Walk.places", defArgs s_Walk_places, defBody s_Walk_places, defScope s_Walk_places, [], []⟩
def d_Walk_dues_told : He.DefD := ⟨("Walk", some "dues_told"), "dues_told", "Walk.dues_told", defArgs s_Walk_dues_told, defBody s_Walk_dues_told, defScope s_Walk_dues_told, [], []⟩
def d_walked : He.DefD := ⟨("walked", none), "walked", "walked", defArgs s_walked, defBody s_walked, defScope s_walked, [], []⟩
def d_dues : He.DefD := ⟨("dues", none), "dues", "dues", defArgs s_dues, defBody s_dues, defScope s_dues, [], []⟩
def d_marks : He.DefD := ⟨("marks", none), "marks", "marks", defArgs s_marks, defBody s_marks, defScope s_marks, [], []⟩
def d_left : He.DefD := ⟨("left", none), "left", "left", defArgs s_left, defBody s_left, defScope s_left, [], []⟩
def d_last_known : He.DefD := ⟨("last_known", none), "last_known", "last_known", defArgs s_last_known, defBody s_last_known, defScope s_last_known, [], []⟩
def d_last : He.DefD := ⟨("last", none), "last", "last", defArgs s_last, defBody s_last, defScope s_last, [], []⟩
def d_would : He.DefD := ⟨("would", none), "would", "would", defArgs s_would, defBody s_would, defScope s_would, [], []⟩
def d_owes : He.DefD := ⟨("owes", none), "owes", "owes", defArgs s_owes, defBody s_owes, defScope s_owes, [], []⟩
def d_rude_papers : He.DefD := ⟨("rude_papers", none), "rude_papers", "rude_papers", defArgs s_rude_papers, defBody s_rude_papers, defScope s_rude_papers, [], []⟩
def d_rude : He.DefD := ⟨("rude", none), "rude", "rude", defArgs s_rude, defBody s_rude, defScope s_rude, [], []⟩
def d_L_feed : He.DefD := ⟨("_law_feed", none), "_law_feed", "_law_feed", defArgs s_L_feed, defBody s_L_feed, defScope s_L_feed, [], []⟩
def d_L_draw : He.DefD := ⟨("_law_draw", none), "_law_draw", "_law_draw", defArgs s_L_draw, defBody s_L_draw, defScope s_L_draw, [], []⟩
def d_L_names : He.DefD := ⟨("_law_names", none), "_law_names", "_law_names", defArgs s_L_names, defBody s_L_names, defScope s_L_names, [], []⟩
def d_L_home : He.DefD := ⟨("_law_home", none), "_law_home", "_law_home", defArgs s_L_home, defBody s_L_home, defScope s_L_home, [], []⟩
def d_L_page : He.DefD := ⟨("_law_page", none), "_law_page", "_law_page", defArgs s_L_page, defBody s_L_page, defScope s_L_page, [], []⟩
def d_L_rank : He.DefD := ⟨("_law_rank", none), "_law_rank", "_law_rank", defArgs s_L_rank, defBody s_L_rank, defScope s_L_rank, [], []⟩
def d_L_standing_so : He.DefD := ⟨("_law_standing_so", none), "_law_standing_so", "_law_standing_so", defArgs s_L_standing_so, defBody s_L_standing_so, defScope s_L_standing_so, [], []⟩
def d_L_book : He.DefD := ⟨("_law_book", none), "_law_book", "_law_book", defArgs s_L_book, defBody s_L_book, defScope s_L_book, [], []⟩
def d_L_case : He.DefD := ⟨("_law_case", none), "_law_case", "_law_case", defArgs s_L_case, defBody s_L_case, defScope s_L_case, [], []⟩
def d_L_stands : He.DefD := ⟨("_law_stands", none), "_law_stands", "_law_stands", defArgs s_L_stands, defBody s_L_stands, defScope s_L_stands, [], []⟩
def d_L_paying : He.DefD := ⟨("_law_paying", none), "_law_paying", "_law_paying", defArgs s_L_paying, defBody s_L_paying, defScope s_L_paying, [], []⟩
def d_L_due_right : He.DefD := ⟨("_law_due_right", none), "_law_due_right", "_law_due_right", defArgs s_L_due_right, defBody s_L_due_right, defScope s_L_due_right, [], []⟩
def d_law : He.DefD := ⟨("law", none), "law", "law", defArgs s_law, defBody s_law, defScope s_law, [], []⟩
def fn : List He.DefD := [d_page_day, d_page_kind, d_names_of, d_place_of, d_in_order, d_with_page, d_up_to, d_Houses_init, d_Houses_can, d_Houses_come, d_Houses_do, d_Houses_meet, d_Houses_ask_standing, d_houses_behind, d_home_of, d_idle, d_stays, d_term_of, d_Walk_init, d_Walk_mourns, d_Walk_is_met, d_Walk_go, d_Walk_part, d_Walk_join, d_Walk_lay, d_Walk_put, d_Walk_fall, d_Walk_go_to, d_Walk_places, d_Walk_dues_told] ++ [d_walked, d_dues, d_marks, d_left, d_last_known, d_last, d_would, d_owes, d_rude_papers, d_rude, d_L_feed, d_L_draw, d_L_names, d_L_home, d_L_page, d_L_rank, d_L_standing_so, d_L_book, d_L_case, d_L_stands, d_L_paying, d_L_due_right, d_law]
def fa0 : List He.Fa := [.glo "page_day", .glo "page_kind", .glo "names_of", .glo "place_of", .glo "in_order", .glo "with_page", .glo "up_to", .glo "houses_behind", .glo "home_of", .glo "idle", .glo "stays", .glo "term_of", .glo "walked", .glo "dues", .glo "marks", .glo "left", .glo "last_known", .glo "last", .glo "would", .glo "owes", .glo "rude_papers", .glo "rude", .glo "_law_feed", .glo "_law_draw", .glo "_law_names", .glo "_law_home", .glo "_law_page", .glo "_law_rank", .glo "_law_standing_so", .glo "_law_book"]
def fa1 : List He.Fa := [.glo "_law_case", .glo "_law_stands", .glo "_law_paying", .glo "_law_due_right", .glo "law", .glo "Houses", .cls "Houses", .mkr "Houses", .glo "Walk", .cls "Walk", .mkr "Walk", .meth "Houses" "can", .meth "Houses" "come", .meth "Houses" "do", .meth "Houses" "meet", .meth "Houses" "ask_standing", .meth "Walk" "mourns", .meth "Walk" "is_met", .meth "Walk" "go", .meth "Walk" "part", .meth "Walk" "join", .meth "Walk" "lay", .meth "Walk" "put", .meth "Walk" "fall", .meth "Walk" "go_to", .meth "Walk" "places", .meth "Walk" "dues_told", .noat "Houses" "homes", .noat "Houses" "parents", .noat "Houses" "joined"]
def fa2 : List He.Fa := [.noat "Houses" "mourned", .noat "Houses" "idle_pages", .noat "Walk" "own_pages", .noat "Walk" "own_terms", .noat "Walk" "lost", .noat "Walk" "homes", .noat "Walk" "mourned", .noat "Walk" "sorts", .noat "Walk" "falls", .noat "Walk" "marks", .noat "Walk" "answers", .noat "Walk" "made", .noat "Walk" "copied", .noat "Walk" "struck", .noat "Walk" "merged", .free "len", .free "any", .free "all", .free "sorted", .free "tuple", .free "list", .free "dict", .free "range", .free "enumerate", .free "int", .free "min", .free "repr", .int "WEEK" 7, .glo "KINDS", .glo "ALONE"]
def fa3 : List He.Fa := [.glo "GOINGS"]
def fa : List He.Fa := fa0 ++ fa1 ++ fa2 ++ fa3
-- law stands at 54
def loose0 : List PySem.Str := ["_wall", "__name__", "CardsError", "NoHouse", "NoDue", "KINDS", "ALONE", "page_day", "page_kind", "names_of", "place_of", "in_order", "with_page", "up_to", "Houses", "houses_behind", "home_of", "idle", "GOINGS", "WEEK", "stays", "term_of", "Walk", "walked", "dues"]
def loose1 : List PySem.Str := ["marks", "left", "last_known", "last", "would", "owes", "rude_papers", "rude", "_law_feed", "_law_draw", "_law_names", "_law_home", "_law_page", "_law_rank", "_law_standing_so", "_law_book", "_law_case", "_law_stands", "_law_paying", "_law_due_right"]
def loose : List PySem.Str := loose0 ++ loose1

abbrev R : PySem.W.OpenRow := PySem.W.OpenLaw.row PySem.Challenge.rw_cardsback_k34_whole_last_is_last
def ex (K : PySem.W.Frag) : Bool := He.tupB K "KINDS" [.str "house", .str "part", .str "join", .str "home", .str "mourn", .str "ahead", .str "card", .str "visit"] &&
  (He.tupB K "ALONE" [.str "house", .str "home", .str "mourn"] && (He.tupB K "GOINGS" [.str "card", .str "visit"] && (match K.lookup (He.ga K "KINDS") with | some o => o.dict.isNone | none => false)))
abbrev hk : PySem.W.Hook := He.hookX 4 fa fn [] [] ex
def ob (s : PySem.W.SharedT) : He.AlX := He.obsX 4 fa fn [] [] ex (HandSHeadRun.getT s)
theorem ob_eq (s : PySem.W.SharedT) : ob s = hk.obs s.abs := He.obsX_eq (HandSHeadRun.getT_eq s)
theorem run (w : World) : HandSHeadRun.RunEq R (PySem.W.view R.prog [54]) hk ob 3000 loose w := by
  intro os
  kernel_rfl
end K34
namespace K34
open PySem PySem.Spec L2

section
variable {w : World} {K : PySem.W.Frag} {mg : Str → Option Value} {h : Heap}
theorem dat_page_day (X : K.In h) (G : h.Ns mainGlobals mg) (c : He.SaysX fa fn [] [] ex w h K) : Dat K mg "page_day" "page_day" s_page_day ["page"] := by
  obtain ⟨fd, F⟩ := c.t.d.def_ 0 (d := d_page_day) rfl
  exact ⟨_, fd, He.glo_ok X G (c.t.d.fact 0 (f := .glo "page_day") rfl), F.kp, F, F.bindsN fun _ _ _ _ _ _ us hl => match us, hl with | [_], _ => rfl⟩
theorem dat_page_kind (X : K.In h) (G : h.Ns mainGlobals mg) (c : He.SaysX fa fn [] [] ex w h K) : Dat K mg "page_kind" "page_kind" s_page_kind ["page"] := by
  obtain ⟨fd, F⟩ := c.t.d.def_ 1 (d := d_page_kind) rfl
  exact ⟨_, fd, He.glo_ok X G (c.t.d.fact 1 (f := .glo "page_kind") rfl), F.kp, F, F.bindsN fun _ _ _ _ _ _ us hl => match us, hl with | [_], _ => rfl⟩
theorem dat_place_of (X : K.In h) (G : h.Ns mainGlobals mg) (c : He.SaysX fa fn [] [] ex w h K) : Dat K mg "place_of" "place_of" s_place_of ["page"] := by
  obtain ⟨fd, F⟩ := c.t.d.def_ 3 (d := d_place_of) rfl
  exact ⟨_, fd, He.glo_ok X G (c.t.d.fact 3 (f := .glo "place_of") rfl), F.kp, F, F.bindsN fun _ _ _ _ _ _ us hl => match us, hl with | [_], _ => rfl⟩
theorem dat_in_order (X : K.In h) (G : h.Ns mainGlobals mg) (c : He.SaysX fa fn [] [] ex w h K) : Dat K mg "in_order" "in_order" s_in_order ["some"] := by
  obtain ⟨fd, F⟩ := c.t.d.def_ 4 (d := d_in_order) rfl
  exact ⟨_, fd, He.glo_ok X G (c.t.d.fact 4 (f := .glo "in_order") rfl), F.kp, F, F.bindsN fun _ _ _ _ _ _ us hl => match us, hl with | [_], _ => rfl⟩
theorem dat_with_page (X : K.In h) (G : h.Ns mainGlobals mg) (c : He.SaysX fa fn [] [] ex w h K) : Dat K mg "with_page" "with_page" s_with_page ["book", "page"] := by
  obtain ⟨fd, F⟩ := c.t.d.def_ 5 (d := d_with_page) rfl
  exact ⟨_, fd, He.glo_ok X G (c.t.d.fact 5 (f := .glo "with_page") rfl), F.kp, F, F.bindsN fun _ _ _ _ _ _ us hl => match us, hl with | [_, _], _ => rfl⟩
theorem dat_up_to (X : K.In h) (G : h.Ns mainGlobals mg) (c : He.SaysX fa fn [] [] ex w h K) : Dat K mg "up_to" "up_to" s_up_to ["book", "day"] := by
  obtain ⟨fd, F⟩ := c.t.d.def_ 6 (d := d_up_to) rfl
  exact ⟨_, fd, He.glo_ok X G (c.t.d.fact 6 (f := .glo "up_to") rfl), F.kp, F, F.bindsN fun _ _ _ _ _ _ us hl => match us, hl with | [_, _], _ => rfl⟩
theorem dat_L_rank (X : K.In h) (G : h.Ns mainGlobals mg) (c : He.SaysX fa fn [] [] ex w h K) : Dat K mg "_law_rank" "_law_rank" s_L_rank ["_law_page_here"] := by
  obtain ⟨fd, F⟩ := c.t.d.def_ 45 (d := d_L_rank) rfl
  exact ⟨_, fd, He.glo_ok X G (c.t.d.fact 27 (f := .glo "_law_rank") rfl), F.kp, F, F.bindsN fun _ _ _ _ _ _ us hl => match us, hl with | [_], _ => rfl⟩
theorem dat_L_standing_so (X : K.In h) (G : h.Ns mainGlobals mg) (c : He.SaysX fa fn [] [] ex w h K) : Dat K mg "_law_standing_so" "_law_standing_so" s_L_standing_so ["_law_pages"] := by
  obtain ⟨fd, F⟩ := c.t.d.def_ 46 (d := d_L_standing_so) rfl
  exact ⟨_, fd, He.glo_ok X G (c.t.d.fact 28 (f := .glo "_law_standing_so") rfl), F.kp, F, F.bindsN fun _ _ _ _ _ _ us hl => match us, hl with | [_], _ => rfl⟩
theorem dat_names_of (X : K.In h) (G : h.Ns mainGlobals mg) (c : He.SaysX fa fn [] [] ex w h K) : Dat K mg "names_of" "names_of" s_names_of ["page"] := by
  obtain ⟨fd, F⟩ := c.t.d.def_ 2 (d := d_names_of) rfl
  exact ⟨_, fd, He.glo_ok X G (c.t.d.fact 2 (f := .glo "names_of") rfl), F.kp, F, F.bindsN fun _ _ _ _ _ _ us hl => match us, hl with | [_], _ => rfl⟩
theorem dat_Houses_can (c : He.SaysX fa fn [] [] ex w h K) : Mat K (He.ga K "Houses") "can" "Houses.can" s_Houses_can ["self", "page"] := by
  obtain ⟨fd, F⟩ := c.t.d.def_ 8 (d := d_Houses_can) rfl
  exact ⟨_, fd, He.meth_ok (c.t.d.fact 41 (f := .meth "Houses" "can") rfl), F, F.bindsN fun _ _ _ _ _ _ us hl => match us, hl with | [_, _], _ => rfl⟩
theorem dat_Houses_come (c : He.SaysX fa fn [] [] ex w h K) : Mat K (He.ga K "Houses") "come" "Houses.come" s_Houses_come ["self", "name", "parent", "home"] := by
  obtain ⟨fd, F⟩ := c.t.d.def_ 9 (d := d_Houses_come) rfl
  exact ⟨_, fd, He.meth_ok (c.t.d.fact 42 (f := .meth "Houses" "come") rfl), F, F.bindsN fun _ _ _ _ _ _ us hl => match us, hl with | [_, _, _, _], _ => rfl⟩
theorem dat_Houses_do (c : He.SaysX fa fn [] [] ex w h K) : Mat K (He.ga K "Houses") "do" "Houses.do" s_Houses_do ["self", "page"] := by
  obtain ⟨fd, F⟩ := c.t.d.def_ 10 (d := d_Houses_do) rfl
  exact ⟨_, fd, He.meth_ok (c.t.d.fact 43 (f := .meth "Houses" "do") rfl), F, F.bindsN fun _ _ _ _ _ _ us hl => match us, hl with | [_, _], _ => rfl⟩
theorem dat_Houses_meet (c : He.SaysX fa fn [] [] ex w h K) : Mat K (He.ga K "Houses") "meet" "Houses.meet" s_Houses_meet ["self", "page"] := by
  obtain ⟨fd, F⟩ := c.t.d.def_ 11 (d := d_Houses_meet) rfl
  exact ⟨_, fd, He.meth_ok (c.t.d.fact 44 (f := .meth "Houses" "meet") rfl), F, F.bindsN fun _ _ _ _ _ _ us hl => match us, hl with | [_, _], _ => rfl⟩
theorem dat_Houses_ask_standing (c : He.SaysX fa fn [] [] ex w h K) : Mat K (He.ga K "Houses") "ask_standing" "Houses.ask_standing" s_Houses_ask_standing ["self", "name"] := by
  obtain ⟨fd, F⟩ := c.t.d.def_ 12 (d := d_Houses_ask_standing) rfl
  exact ⟨_, fd, He.meth_ok (c.t.d.fact 45 (f := .meth "Houses" "ask_standing") rfl), F, F.bindsN fun _ _ _ _ _ _ us hl => match us, hl with | [_, _], _ => rfl⟩
theorem dat_Houses_init (X : K.In h) (G : h.Ns mainGlobals mg) (c : He.SaysX fa fn [] [] ex w h K) : Cat K mg (He.ga K "Houses") "Houses" "Houses.__init__" s_Houses_init ["self"] := by
  obtain ⟨fd, F⟩ := c.t.d.def_ 7 (d := d_Houses_init) rfl
  exact ⟨He.glo_ok X G (c.t.d.fact 35 (f := .glo "Houses") rfl), _, fd, He.mkr_ok (c.t.d.fact 37 (f := .mkr "Houses") rfl), F, F.bindsN fun _ _ _ _ _ _ us hl => match us, hl with | [_], _ => rfl⟩
theorem dat_houses_behind (X : K.In h) (G : h.Ns mainGlobals mg) (c : He.SaysX fa fn [] [] ex w h K) : Dat K mg "houses_behind" "houses_behind" s_houses_behind ["book", "day"] := by
  obtain ⟨fd, F⟩ := c.t.d.def_ 13 (d := d_houses_behind) rfl
  exact ⟨_, fd, He.glo_ok X G (c.t.d.fact 7 (f := .glo "houses_behind") rfl), F.kp, F, F.bindsN fun _ _ _ _ _ _ us hl => match us, hl with | [_, _], _ => rfl⟩
theorem dat_home_of (X : K.In h) (G : h.Ns mainGlobals mg) (c : He.SaysX fa fn [] [] ex w h K) : Dat K mg "home_of" "home_of" s_home_of ["book", "day", "name"] := by
  obtain ⟨fd, F⟩ := c.t.d.def_ 14 (d := d_home_of) rfl
  exact ⟨_, fd, He.glo_ok X G (c.t.d.fact 8 (f := .glo "home_of") rfl), F.kp, F, F.bindsN fun _ _ _ _ _ _ us hl => match us, hl with | [_, _, _], _ => rfl⟩
theorem dat_idle (X : K.In h) (G : h.Ns mainGlobals mg) (c : He.SaysX fa fn [] [] ex w h K) : Dat K mg "idle" "idle" s_idle ["book", "day"] := by
  obtain ⟨fd, F⟩ := c.t.d.def_ 15 (d := d_idle) rfl
  exact ⟨_, fd, He.glo_ok X G (c.t.d.fact 9 (f := .glo "idle") rfl), F.kp, F, F.bindsN fun _ _ _ _ _ _ us hl => match us, hl with | [_, _], _ => rfl⟩
theorem dat_stays (X : K.In h) (G : h.Ns mainGlobals mg) (c : He.SaysX fa fn [] [] ex w h K) : Dat K mg "stays" "stays" s_stays ["one", "other"] := by
  obtain ⟨fd, F⟩ := c.t.d.def_ 16 (d := d_stays) rfl
  exact ⟨_, fd, He.glo_ok X G (c.t.d.fact 10 (f := .glo "stays") rfl), F.kp, F, F.bindsN fun _ _ _ _ _ _ us hl => match us, hl with | [_, _], _ => rfl⟩
theorem dat_term_of (X : K.In h) (G : h.Ns mainGlobals mg) (c : He.SaysX fa fn [] [] ex w h K) : Dat K mg "term_of" "term_of" s_term_of ["terms", "sort"] := by
  obtain ⟨fd, F⟩ := c.t.d.def_ 17 (d := d_term_of) rfl
  exact ⟨_, fd, He.glo_ok X G (c.t.d.fact 11 (f := .glo "term_of") rfl), F.kp, F, F.bindsN fun _ _ _ _ _ _ us hl => match us, hl with | [_, _], _ => rfl⟩
theorem dat_Walk_mourns (c : He.SaysX fa fn [] [] ex w h K) : Mat K (He.ga K "Walk") "mourns" "Walk.mourns" s_Walk_mourns ["self", "name", "day"] := by
  obtain ⟨fd, F⟩ := c.t.d.def_ 19 (d := d_Walk_mourns) rfl
  exact ⟨_, fd, He.meth_ok (c.t.d.fact 46 (f := .meth "Walk" "mourns") rfl), F, F.bindsN fun _ _ _ _ _ _ us hl => match us, hl with | [_, _, _], _ => rfl⟩
theorem dat_Walk_is_met (c : He.SaysX fa fn [] [] ex w h K) : Mat K (He.ga K "Walk") "is_met" "Walk.is_met" s_Walk_is_met ["self", "page"] := by
  obtain ⟨fd, F⟩ := c.t.d.def_ 20 (d := d_Walk_is_met) rfl
  exact ⟨_, fd, He.meth_ok (c.t.d.fact 47 (f := .meth "Walk" "is_met") rfl), F, F.bindsN fun _ _ _ _ _ _ us hl => match us, hl with | [_, _], _ => rfl⟩
theorem dat_Walk_lay (c : He.SaysX fa fn [] [] ex w h K) : Mat K (He.ga K "Walk") "lay" "Walk.lay" s_Walk_lay ["self", "due", "falls"] := by
  obtain ⟨fd, F⟩ := c.t.d.def_ 24 (d := d_Walk_lay) rfl
  exact ⟨_, fd, He.meth_ok (c.t.d.fact 51 (f := .meth "Walk" "lay") rfl), F, F.bindsN fun _ _ _ _ _ _ us hl => match us, hl with | [_, _, _], _ => rfl⟩
theorem dat_Walk_part (c : He.SaysX fa fn [] [] ex w h K) : Mat K (He.ga K "Walk") "part" "Walk.part" s_Walk_part ["self", "name", "fresh"] := by
  obtain ⟨fd, F⟩ := c.t.d.def_ 22 (d := d_Walk_part) rfl
  exact ⟨_, fd, He.meth_ok (c.t.d.fact 49 (f := .meth "Walk" "part") rfl), F, F.bindsN fun _ _ _ _ _ _ us hl => match us, hl with | [_, _, _], _ => rfl⟩
theorem dat_Walk_join (c : He.SaysX fa fn [] [] ex w h K) : Mat K (He.ga K "Walk") "join" "Walk.join" s_Walk_join ["self", "name", "gone"] := by
  obtain ⟨fd, F⟩ := c.t.d.def_ 23 (d := d_Walk_join) rfl
  exact ⟨_, fd, He.meth_ok (c.t.d.fact 50 (f := .meth "Walk" "join") rfl), F, F.bindsN fun _ _ _ _ _ _ us hl => match us, hl with | [_, _, _], _ => rfl⟩
theorem dat_Walk_go (c : He.SaysX fa fn [] [] ex w h K) : Mat K (He.ga K "Walk") "go" "Walk.go" s_Walk_go ["self", "page"] := by
  obtain ⟨fd, F⟩ := c.t.d.def_ 21 (d := d_Walk_go) rfl
  exact ⟨_, fd, He.meth_ok (c.t.d.fact 48 (f := .meth "Walk" "go") rfl), F, F.bindsN fun _ _ _ _ _ _ us hl => match us, hl with | [_, _], _ => rfl⟩
theorem dat_Walk_fall (c : He.SaysX fa fn [] [] ex w h K) : Mat K (He.ga K "Walk") "fall" "Walk.fall" s_Walk_fall ["self", "day"] := by
  obtain ⟨fd, F⟩ := c.t.d.def_ 26 (d := d_Walk_fall) rfl
  exact ⟨_, fd, He.meth_ok (c.t.d.fact 53 (f := .meth "Walk" "fall") rfl), F, F.bindsN fun _ _ _ _ _ _ us hl => match us, hl with | [_, _], _ => rfl⟩
theorem dat_Walk_put (c : He.SaysX fa fn [] [] ex w h K) : Mat K (He.ga K "Walk") "put" "Walk.put" s_Walk_put ["self", "page"] := by
  obtain ⟨fd, F⟩ := c.t.d.def_ 25 (d := d_Walk_put) rfl
  exact ⟨_, fd, He.meth_ok (c.t.d.fact 52 (f := .meth "Walk" "put") rfl), F, F.bindsN fun _ _ _ _ _ _ us hl => match us, hl with | [_, _], _ => rfl⟩
theorem dat_Walk_init (X : K.In h) (G : h.Ns mainGlobals mg) (c : He.SaysX fa fn [] [] ex w h K) : Cat K mg (He.ga K "Walk") "Walk" "Walk.__init__" s_Walk_init ["self", "book", "terms"] := by
  obtain ⟨fd, F⟩ := c.t.d.def_ 18 (d := d_Walk_init) rfl
  exact ⟨He.glo_ok X G (c.t.d.fact 38 (f := .glo "Walk") rfl), _, fd, He.mkr_ok (c.t.d.fact 40 (f := .mkr "Walk") rfl), F, F.bindsN fun _ _ _ _ _ _ us hl => match us, hl with | [_, _, _], _ => rfl⟩
theorem dat_Walk_go_to (c : He.SaysX fa fn [] [] ex w h K) : Mat K (He.ga K "Walk") "go_to" "Walk.go_to" s_Walk_go_to ["self", "last"] := by
  obtain ⟨fd, F⟩ := c.t.d.def_ 27 (d := d_Walk_go_to) rfl
  exact ⟨_, fd, He.meth_ok (c.t.d.fact 54 (f := .meth "Walk" "go_to") rfl), F, F.bindsN fun _ _ _ _ _ _ us hl => match us, hl with | [_, _], _ => rfl⟩
theorem dat_Walk_places (c : He.SaysX fa fn [] [] ex w h K) : Mat K (He.ga K "Walk") "places" "Walk.places" s_Walk_places ["self"] := by
  obtain ⟨fd, F⟩ := c.t.d.def_ 28 (d := d_Walk_places) rfl
  exact ⟨_, fd, He.meth_ok (c.t.d.fact 55 (f := .meth "Walk" "places") rfl), F, F.bindsN fun _ _ _ _ _ _ us hl => match us, hl with | [_], _ => rfl⟩
theorem dat_Walk_dues_told (c : He.SaysX fa fn [] [] ex w h K) : Mat K (He.ga K "Walk") "dues_told" "Walk.dues_told" s_Walk_dues_told ["self"] := by
  obtain ⟨fd, F⟩ := c.t.d.def_ 29 (d := d_Walk_dues_told) rfl
  exact ⟨_, fd, He.meth_ok (c.t.d.fact 56 (f := .meth "Walk" "dues_told") rfl), F, F.bindsN fun _ _ _ _ _ _ us hl => match us, hl with | [_], _ => rfl⟩
theorem dat_walked (X : K.In h) (G : h.Ns mainGlobals mg) (c : He.SaysX fa fn [] [] ex w h K) : Dat K mg "walked" "walked" s_walked ["book", "terms", "day"] := by
  obtain ⟨fd, F⟩ := c.t.d.def_ 30 (d := d_walked) rfl
  exact ⟨_, fd, He.glo_ok X G (c.t.d.fact 12 (f := .glo "walked") rfl), F.kp, F, F.bindsN fun _ _ _ _ _ _ us hl => match us, hl with | [_, _, _], _ => rfl⟩
theorem dat_dues (X : K.In h) (G : h.Ns mainGlobals mg) (c : He.SaysX fa fn [] [] ex w h K) : Dat K mg "dues" "dues" s_dues ["book", "terms", "day"] := by
  obtain ⟨fd, F⟩ := c.t.d.def_ 31 (d := d_dues) rfl
  exact ⟨_, fd, He.glo_ok X G (c.t.d.fact 13 (f := .glo "dues") rfl), F.kp, F, F.bindsN fun _ _ _ _ _ _ us hl => match us, hl with | [_, _, _], _ => rfl⟩
theorem dat_marks (X : K.In h) (G : h.Ns mainGlobals mg) (c : He.SaysX fa fn [] [] ex w h K) : Dat K mg "marks" "marks" s_marks ["book", "terms", "day"] := by
  obtain ⟨fd, F⟩ := c.t.d.def_ 32 (d := d_marks) rfl
  exact ⟨_, fd, He.glo_ok X G (c.t.d.fact 14 (f := .glo "marks") rfl), F.kp, F, F.bindsN fun _ _ _ _ _ _ us hl => match us, hl with | [_, _, _], _ => rfl⟩
theorem dat_left (X : K.In h) (G : h.Ns mainGlobals mg) (c : He.SaysX fa fn [] [] ex w h K) : Dat K mg "left" "left" s_left ["terms", "due"] := by
  obtain ⟨fd, F⟩ := c.t.d.def_ 33 (d := d_left) rfl
  exact ⟨_, fd, He.glo_ok X G (c.t.d.fact 15 (f := .glo "left") rfl), F.kp, F, F.bindsN fun _ _ _ _ _ _ us hl => match us, hl with | [_, _], _ => rfl⟩
theorem dat_last_known (X : K.In h) (G : h.Ns mainGlobals mg) (c : He.SaysX fa fn [] [] ex w h K) : Dat K mg "last_known" "last_known" s_last_known ["walk", "terms", "day", "due"] := by
  obtain ⟨fd, F⟩ := c.t.d.def_ 34 (d := d_last_known) rfl
  exact ⟨_, fd, He.glo_ok X G (c.t.d.fact 16 (f := .glo "last_known") rfl), F.kp, F, F.bindsN fun _ _ _ _ _ _ us hl => match us, hl with | [_, _, _, _], _ => rfl⟩
theorem dat_last (X : K.In h) (G : h.Ns mainGlobals mg) (c : He.SaysX fa fn [] [] ex w h K) : Dat K mg "last" "last" s_last ["book", "terms", "day", "due"] := by
  obtain ⟨fd, F⟩ := c.t.d.def_ 35 (d := d_last) rfl
  exact ⟨_, fd, He.glo_ok X G (c.t.d.fact 17 (f := .glo "last") rfl), F.kp, F, F.bindsN fun _ _ _ _ _ _ us hl => match us, hl with | [_, _, _, _], _ => rfl⟩
theorem dat_owes (X : K.In h) (G : h.Ns mainGlobals mg) (c : He.SaysX fa fn [] [] ex w h K) : Dat K mg "owes" "owes" s_owes ["book", "terms", "day", "a", "b"] := by
  obtain ⟨fd, F⟩ := c.t.d.def_ 37 (d := d_owes) rfl
  exact ⟨_, fd, He.glo_ok X G (c.t.d.fact 19 (f := .glo "owes") rfl), F.kp, F, F.bindsN fun _ _ _ _ _ _ us hl => match us, hl with | [_, _, _, _, _], _ => rfl⟩
theorem dat_rude_papers (X : K.In h) (G : h.Ns mainGlobals mg) (c : He.SaysX fa fn [] [] ex w h K) : Dat K mg "rude_papers" "rude_papers" s_rude_papers ["book", "terms", "day"] := by
  obtain ⟨fd, F⟩ := c.t.d.def_ 38 (d := d_rude_papers) rfl
  exact ⟨_, fd, He.glo_ok X G (c.t.d.fact 20 (f := .glo "rude_papers") rfl), F.kp, F, F.bindsN fun _ _ _ _ _ _ us hl => match us, hl with | [_, _, _], _ => rfl⟩
theorem dat_rude (X : K.In h) (G : h.Ns mainGlobals mg) (c : He.SaysX fa fn [] [] ex w h K) : Dat K mg "rude" "rude" s_rude ["book", "terms", "day"] := by
  obtain ⟨fd, F⟩ := c.t.d.def_ 39 (d := d_rude) rfl
  exact ⟨_, fd, He.glo_ok X G (c.t.d.fact 21 (f := .glo "rude") rfl), F.kp, F, F.bindsN fun _ _ _ _ _ _ us hl => match us, hl with | [_, _, _], _ => rfl⟩
theorem dat_would (X : K.In h) (G : h.Ns mainGlobals mg) (c : He.SaysX fa fn [] [] ex w h K) : Dat K mg "would" "would" s_would ["book", "terms", "day", "page"] := by
  obtain ⟨fd, F⟩ := c.t.d.def_ 36 (d := d_would) rfl
  exact ⟨_, fd, He.glo_ok X G (c.t.d.fact 18 (f := .glo "would") rfl), F.kp, F, F.bindsN fun _ _ _ _ _ _ us hl => match us, hl with | [_, _, _, _], _ => rfl⟩
theorem dat_L_stands (X : K.In h) (G : h.Ns mainGlobals mg) (c : He.SaysX fa fn [] [] ex w h K) : Dat K mg "_law_stands" "_law_stands" s_L_stands ["_law_some", "_law_due"] := by
  obtain ⟨fd, F⟩ := c.t.d.def_ 49 (d := d_L_stands) rfl
  exact ⟨_, fd, He.glo_ok X G (c.t.d.fact 31 (f := .glo "_law_stands") rfl), F.kp, F, F.bindsN fun _ _ _ _ _ _ us hl => match us, hl with | [_, _], _ => rfl⟩
theorem dat_L_feed (X : K.In h) (G : h.Ns mainGlobals mg) (c : He.SaysX fa fn [] [] ex w h K) : Dat K mg "_law_feed" "_law_feed" s_L_feed ["_law_script"] := by
  obtain ⟨fd, F⟩ := c.t.d.def_ 40 (d := d_L_feed) rfl
  exact ⟨_, fd, He.glo_ok X G (c.t.d.fact 22 (f := .glo "_law_feed") rfl), F.kp, F, F.bindsN fun _ _ _ _ _ _ us hl => match us, hl with | [_], _ => rfl⟩
theorem dat_L_draw (X : K.In h) (G : h.Ns mainGlobals mg) (c : He.SaysX fa fn [] [] ex w h K) : Dat K mg "_law_draw" "_law_draw" s_L_draw ["_law_feed_here", "_law_many"] := by
  obtain ⟨fd, F⟩ := c.t.d.def_ 41 (d := d_L_draw) rfl
  exact ⟨_, fd, He.glo_ok X G (c.t.d.fact 23 (f := .glo "_law_draw") rfl), F.kp, F, F.bindsN fun _ _ _ _ _ _ us hl => match us, hl with | [_, _], _ => rfl⟩
theorem dat_L_home (X : K.In h) (G : h.Ns mainGlobals mg) (c : He.SaysX fa fn [] [] ex w h K) : Dat K mg "_law_home" "_law_home" s_L_home ["_law_feed_here"] := by
  obtain ⟨fd, F⟩ := c.t.d.def_ 43 (d := d_L_home) rfl
  exact ⟨_, fd, He.glo_ok X G (c.t.d.fact 25 (f := .glo "_law_home") rfl), F.kp, F, F.bindsN fun _ _ _ _ _ _ us hl => match us, hl with | [_], _ => rfl⟩
theorem dat_L_page (X : K.In h) (G : h.Ns mainGlobals mg) (c : He.SaysX fa fn [] [] ex w h K) : Dat K mg "_law_page" "_law_page" s_L_page ["_law_feed_here", "_law_names_here", "_law_day"] := by
  obtain ⟨fd, F⟩ := c.t.d.def_ 44 (d := d_L_page) rfl
  exact ⟨_, fd, He.glo_ok X G (c.t.d.fact 26 (f := .glo "_law_page") rfl), F.kp, F, F.bindsN fun _ _ _ _ _ _ us hl => match us, hl with | [_, _, _], _ => rfl⟩
theorem dat_L_names (X : K.In h) (G : h.Ns mainGlobals mg) (c : He.SaysX fa fn [] [] ex w h K) : Dat K mg "_law_names" "_law_names" s_L_names ["_law_feed_here"] := by
  obtain ⟨fd, F⟩ := c.t.d.def_ 42 (d := d_L_names) rfl
  exact ⟨_, fd, He.glo_ok X G (c.t.d.fact 24 (f := .glo "_law_names") rfl), F.kp, F, F.bindsN fun _ _ _ _ _ _ us hl => match us, hl with | [_], _ => rfl⟩
theorem dat_L_book (X : K.In h) (G : h.Ns mainGlobals mg) (c : He.SaysX fa fn [] [] ex w h K) : Dat K mg "_law_book" "_law_book" s_L_book ["_law_feed_here", "_law_names_here", "_law_many", "_law_wide"] := by
  obtain ⟨fd, F⟩ := c.t.d.def_ 47 (d := d_L_book) rfl
  exact ⟨_, fd, He.glo_ok X G (c.t.d.fact 29 (f := .glo "_law_book") rfl), F.kp, F, F.bindsN fun _ _ _ _ _ _ us hl => match us, hl with | [_, _, _, _], _ => rfl⟩
theorem dat_L_case (X : K.In h) (G : h.Ns mainGlobals mg) (c : He.SaysX fa fn [] [] ex w h K) : Dat K mg "_law_case" "_law_case" s_L_case ["_law_feed_here"] := by
  obtain ⟨fd, F⟩ := c.t.d.def_ 48 (d := d_L_case) rfl
  exact ⟨_, fd, He.glo_ok X G (c.t.d.fact 30 (f := .glo "_law_case") rfl), F.kp, F, F.bindsN fun _ _ _ _ _ _ us hl => match us, hl with | [_], _ => rfl⟩
theorem dat_L_paying (X : K.In h) (G : h.Ns mainGlobals mg) (c : He.SaysX fa fn [] [] ex w h K) : Dat K mg "_law_paying" "_law_paying" s_L_paying ["_law_feed_here", "_law_book_here", "_law_terms", "_law_day", "_law_due", "_law_far"] := by
  obtain ⟨fd, F⟩ := c.t.d.def_ 50 (d := d_L_paying) rfl
  exact ⟨_, fd, He.glo_ok X G (c.t.d.fact 32 (f := .glo "_law_paying") rfl), F.kp, F, F.bindsN fun _ _ _ _ _ _ us hl => match us, hl with | [_, _, _, _, _, _], _ => rfl⟩
theorem dat_L_due_right (X : K.In h) (G : h.Ns mainGlobals mg) (c : He.SaysX fa fn [] [] ex w h K) : Dat K mg "_law_due_right" "_law_due_right" s_L_due_right ["_law_feed_here", "_law_book_here", "_law_terms", "_law_day", "_law_due"] := by
  obtain ⟨fd, F⟩ := c.t.d.def_ 51 (d := d_L_due_right) rfl
  exact ⟨_, fd, He.glo_ok X G (c.t.d.fact 33 (f := .glo "_law_due_right") rfl), F.kp, F, F.bindsN fun _ _ _ _ _ _ us hl => match us, hl with | [_, _, _, _, _], _ => rfl⟩
theorem dat_law (X : K.In h) (G : h.Ns mainGlobals mg) (c : He.SaysX fa fn [] [] ex w h K) : Dat K mg "law" "law" s_law ["_law_script"] := by
  obtain ⟨fd, F⟩ := c.t.d.def_ 52 (d := d_law) rfl
  exact ⟨_, fd, He.glo_ok X G (c.t.d.fact 34 (f := .glo "law") rfl), F.kp, F, F.bindsN fun _ _ _ _ _ _ us hl => match us, hl with | [_], _ => rfl⟩
theorem tup_of {x : Str} {l : List Str} (h : He.tupB K x (l.map .str) = true) (H : Hp) : SqT K H (He.ga K x) (l.map V.str) := by
  have := He.tupB_ok h H
  rw [List.map_map] at this
  exact this
theorem txt_of (X : K.In h) (G : h.Ns mainGlobals mg) (c : He.SaysX fa fn [] [] ex w h K) : Txt K mg (He.ga K "Houses") (He.ga K "Walk") (He.ga K "KINDS") (He.ga K "ALONE") (He.ga K "GOINGS") := by
  have m := c.more
  unfold ex at m
  obtain ⟨m1, m⟩ := He.ba m
  obtain ⟨m2, m⟩ := He.ba m
  obtain ⟨m3, m4⟩ := He.ba m
  have n1 : ∀ f ∈ (["homes", "parents", "joined", "mourned", "idle_pages"] : List Str), NoAttr K (He.ga K "Houses") f := fun f hf => by
    simp only [List.mem_cons, List.not_mem_nil, or_false] at hf
    rcases hf with rfl | rfl | rfl | rfl | rfl
    · exact He.noat_ok (c.t.d.fact 57 (f := .noat "Houses" "homes") rfl)
    · exact He.noat_ok (c.t.d.fact 58 (f := .noat "Houses" "parents") rfl)
    · exact He.noat_ok (c.t.d.fact 59 (f := .noat "Houses" "joined") rfl)
    · exact He.noat_ok (c.t.d.fact 60 (f := .noat "Houses" "mourned") rfl)
    · exact He.noat_ok (c.t.d.fact 61 (f := .noat "Houses" "idle_pages") rfl)
  have n2 : ∀ f ∈ (["own_pages", "own_terms", "lost", "homes", "mourned", "sorts", "falls", "marks", "answers", "made", "copied", "struck", "merged"] : List Str), NoAttr K (He.ga K "Walk") f := fun f hf => by
    simp only [List.mem_cons, List.not_mem_nil, or_false] at hf
    rcases hf with rfl | rfl | rfl | rfl | rfl | rfl | rfl | rfl | rfl | rfl | rfl | rfl | rfl
    · exact He.noat_ok (c.t.d.fact 62 (f := .noat "Walk" "own_pages") rfl)
    · exact He.noat_ok (c.t.d.fact 63 (f := .noat "Walk" "own_terms") rfl)
    · exact He.noat_ok (c.t.d.fact 64 (f := .noat "Walk" "lost") rfl)
    · exact He.noat_ok (c.t.d.fact 65 (f := .noat "Walk" "homes") rfl)
    · exact He.noat_ok (c.t.d.fact 66 (f := .noat "Walk" "mourned") rfl)
    · exact He.noat_ok (c.t.d.fact 67 (f := .noat "Walk" "sorts") rfl)
    · exact He.noat_ok (c.t.d.fact 68 (f := .noat "Walk" "falls") rfl)
    · exact He.noat_ok (c.t.d.fact 69 (f := .noat "Walk" "marks") rfl)
    · exact He.noat_ok (c.t.d.fact 70 (f := .noat "Walk" "answers") rfl)
    · exact He.noat_ok (c.t.d.fact 71 (f := .noat "Walk" "made") rfl)
    · exact He.noat_ok (c.t.d.fact 72 (f := .noat "Walk" "copied") rfl)
    · exact He.noat_ok (c.t.d.fact 73 (f := .noat "Walk" "struck") rfl)
    · exact He.noat_ok (c.t.d.fact 74 (f := .noat "Walk" "merged") rfl)
  have n3 : ∃ o, K.lookup (He.ga K "KINDS") = some o ∧ o.cls = .type "tuple" ∧ o.dict = none := by
    unfold He.tupB at m1
    cases q : K.lookup (He.ga K "KINDS") with
    | none => rw [q] at m4; cases m4
    | some o =>
      rw [q] at m1 m4
      obtain ⟨oc, od, dt, osl⟩ := o
      refine ⟨_, rfl, ?_, Option.isNone_iff_eq_none.mp m4⟩
      cases oc with
      | type t =>
        cases dt with
        | seq its n =>
          have e : t = "tuple" := of_decide_eq_true (He.ba m1).1
          rw [e]
        | _ => cases m1
      | _ => cases m1
  exact ⟨He.cls_ok (c.t.d.fact 36 (f := .cls "Houses") rfl), He.cls_ok (c.t.d.fact 39 (f := .cls "Walk") rfl), n1, n2, He.free_ok X G (c.t.d.fact 75 (f := .free "len") rfl), He.free_ok X G (c.t.d.fact 76 (f := .free "any") rfl), He.free_ok X G (c.t.d.fact 77 (f := .free "all") rfl), He.free_ok X G (c.t.d.fact 78 (f := .free "sorted") rfl), He.free_ok X G (c.t.d.fact 79 (f := .free "tuple") rfl), He.free_ok X G (c.t.d.fact 80 (f := .free "list") rfl), He.free_ok X G (c.t.d.fact 81 (f := .free "dict") rfl), He.free_ok X G (c.t.d.fact 82 (f := .free "range") rfl), He.free_ok X G (c.t.d.fact 83 (f := .free "enumerate") rfl), He.free_ok X G (c.t.d.fact 84 (f := .free "int") rfl), He.free_ok X G (c.t.d.fact 85 (f := .free "min") rfl), He.free_ok X G (c.t.d.fact 86 (f := .free "repr") rfl), He.int_ok X G (c.t.d.fact 87 (f := .int "WEEK" 7) rfl), He.glo_ok X G (c.t.d.fact 88 (f := .glo "KINDS") rfl), He.glo_ok X G (c.t.d.fact 89 (f := .glo "ALONE") rfl), He.glo_ok X G (c.t.d.fact 90 (f := .glo "GOINGS") rfl), tup_of (l := kindsL) m1, n3, tup_of (l := aloneL) m2, tup_of (l := goingsL) m3⟩
theorem facts {P : Program} (X : K.In h) (G : h.Ns mainGlobals mg) (c : He.SaysX fa fn [] [] ex w h K) (base : Heap) : GOK P w K mg base 23 "law" ["_law_script"] (spLaw K) := by
  have T := txt_of X G c
  have G_page_day := ok_page_day (P := P) (w := w) (base := base) (dat_page_day X G c)
  have G_page_kind := ok_page_kind (P := P) (w := w) (base := base) (dat_page_kind X G c)
  have G_place_of := ok_place_of (P := P) (w := w) (base := base) T (dat_place_of X G c)
  have G_in_order := ok_in_order (P := P) (w := w) (base := base) T (dat_in_order X G c) G_place_of
  have G_with_page := ok_with_page (P := P) (w := w) (base := base) (dat_with_page X G c) G_in_order
  have G_up_to := ok_up_to (P := P) (w := w) (base := base) T (dat_up_to X G c) G_page_day
  have G__law_rank := ok_rank (P := P) (w := w) (base := base) (dat_L_rank X G c)
  have G__law_standing_so := ok_standing (P := P) (w := w) (base := base) T (dat_L_standing_so X G c) G__law_rank
  have G_names_of := ok_names_of (P := P) (w := w) (base := base) T (dat_names_of X G c)
  have M_CH_can := ok_can (P := P) (w := w) (base := base) T (dat_Houses_can c) G_names_of
  have M_CH_come := ok_come (P := P) (w := w) (base := base) T (dat_Houses_come c)
  have M_CH_do := ok_do (P := P) (w := w) (base := base) T (dat_Houses_do c) M_CH_come
  have M_CH_meet := ok_meet (P := P) (w := w) (base := base) T (dat_Houses_meet c) M_CH_can M_CH_do
  have M_CH_ask_standing := ok_ask (P := P) (w := w) (base := base) T (dat_Houses_ask_standing c)
  have C_CH_Houses := ok_hinit (P := P) (w := w) (base := base) T (dat_Houses_init X G c)
  have G_houses_behind := ok_behind (P := P) (w := w) (base := base) T (dat_houses_behind X G c) G_up_to C_CH_Houses M_CH_meet
  have G_home_of := ok_home_of (P := P) (w := w) (base := base) T (dat_home_of X G c) G_houses_behind M_CH_ask_standing
  have G_idle := ok_idle (P := P) (w := w) (base := base) T (dat_idle X G c) G_houses_behind
  have G_stays := ok_stays (P := P) (w := w) (base := base) T (dat_stays X G c)
  have G_term_of := ok_term_of (P := P) (w := w) (base := base) (dat_term_of X G c)
  have M_CW_mourns := ok_mourns (P := P) (w := w) (base := base) T (dat_Walk_mourns c)
  have M_CW_is_met := ok_is_met (P := P) (w := w) (base := base) T (dat_Walk_is_met c) M_CW_mourns
  have M_CW_lay := ok_lay (P := P) (w := w) (base := base) T (dat_Walk_lay c) G_stays
  have M_CW_part := ok_part (P := P) (w := w) (base := base) T (dat_Walk_part c)
  have M_CW_join := ok_join (P := P) (w := w) (base := base) T (dat_Walk_join c) M_CW_lay
  have M_CW_go := ok_go (P := P) (w := w) (base := base) T (dat_Walk_go c) M_CW_is_met
  have M_CW_fall := ok_fall (P := P) (w := w) (base := base) T (dat_Walk_fall c) M_CW_mourns G_term_of G_page_day
  have M_CW_put := ok_put (P := P) (w := w) (base := base) T (dat_Walk_put c) G_page_kind M_CW_go M_CW_part M_CW_join
  have C_CW_Walk := ok_winit (P := P) (w := w) (base := base) T (dat_Walk_init X G c)
  have M_CW_go_to := ok_go_to (P := P) (w := w) (base := base) T (dat_Walk_go_to c) G_page_day G_idle M_CW_put M_CW_fall
  have M_CW_places := ok_places (P := P) (w := w) (base := base) T (dat_Walk_places c)
  have M_CW_dues_told := ok_told (P := P) (w := w) (base := base) T (dat_Walk_dues_told c) M_CW_places
  have G_walked := ok_walked (P := P) (w := w) (base := base) T (dat_walked X G c) C_CW_Walk M_CW_go_to
  have G_dues := ok_dues (P := P) (w := w) (base := base) T (dat_dues X G c) G_walked M_CW_dues_told
  have G_marks := ok_marks (P := P) (w := w) (base := base) T (dat_marks X G c) G_walked
  have G_left := ok_left (P := P) (w := w) (base := base) T (dat_left X G c) G_term_of
  have G_last_known := ok_last_known (P := P) (w := w) (base := base) T (dat_last_known X G c) G_left M_CW_mourns
  have G_last := ok_last (P := P) (w := w) (base := base) T (dat_last X G c) G_walked M_CW_dues_told G_left G_last_known
  have G_owes := ok_owes (P := P) (w := w) (base := base) T (dat_owes X G c) G_home_of G_dues
  have G_rude_papers := ok_rude_papers (P := P) (w := w) (base := base) T (dat_rude_papers X G c) G_dues G_left
  have G_rude := ok_rude (P := P) (w := w) (base := base) T (dat_rude X G c) G_rude_papers
  have G_would := ok_would (P := P) (w := w) (base := base) T (dat_would X G c) G_marks G_with_page G_up_to G_page_day
  have G__law_stands := ok_stands (P := P) (w := w) (base := base) T (dat_L_stands X G c)
  have G__law_feed := ok_feed (P := P) (w := w) (base := base) T (dat_L_feed X G c)
  have G__law_draw := ok_draw (P := P) (w := w) (base := base) T (dat_L_draw X G c)
  have G__law_home := ok_home (P := P) (w := w) (base := base) T (dat_L_home X G c) G__law_draw
  have G__law_page := ok_page (P := P) (w := w) (base := base) T (dat_L_page X G c) G__law_draw G__law_home
  have G__law_names := ok_names (P := P) (w := w) (base := base) T (dat_L_names X G c) G__law_draw
  have G__law_book := ok_book (P := P) (w := w) (base := base) T (dat_L_book X G c) G__law_draw G__law_home G__law_page G__law_standing_so
  have G__law_case := ok_case (P := P) (w := w) (base := base) T (dat_L_case X G c) G__law_draw G__law_names G__law_book
  have G__law_paying := ok_paying (P := P) (w := w) (base := base) T (dat_L_paying X G c) G_owes G__law_draw G_would
  have G__law_due_right := ok_due_right (P := P) (w := w) (base := base) T (dat_L_due_right X G c) G_last G__law_stands G_rude G__law_paying G_dues G__law_rank
  have G_law := ok_law (P := P) (w := w) (base := base) T (dat_law X G c) G__law_feed G__law_case G_dues G_left G__law_due_right
  exact G_law
end
open PyProof.Rows in
/-- a law's end, where repr is asked -/
theorem walk_ofG {l : PySem.W.OpenLaw} {n k : Nat} {q : Program} {loose : List Str} {XP : (Str → Option Value) → Heap → Prop} {YP : World → Heap → Prop} {d : DefRec} {x : Str}
    (hn : l.most = some n) (hn2 : n ≤ sizeLine) (hdf : d.params.defaults = []) (hr : Room k callerA)
    (F : ∀ (w : World) (mg : Str → Option Value) (fa : Addr) (h : Heap), YP w h → h.Ns mainGlobals mg → mg d.name = some (.ref fa) →
      ∃ (K : PySem.W.Frag) (sp : Sp), K.In h ∧
        (∀ (H : Hp) (a : Addr) (ns : List Int), SqL K H a (ns.map V.int) → sp [.ref a] H (fun v _ => v = .bl true) fun _ _ _ => False) ∧
        ∀ base : Heap, K.In base → base.Ns mainGlobals mg → ∃ fd, Binds K fd [x] [] ∧ FnG l.prog w K mg base k fa fd [x] sp) :
    PySem.W.WalkO q loose XP YP l.row.toRowW d [] (fun f vs => PySem.call f vs) := by
  refine Att.attach_call hn hdf fun w s₀ s₁ mg mb fa o pm cd doc a vs ns G Y ho hd hcd hmg hobj hints hlen hg => ?_
  obtain ⟨K, sp, KX, hsp, hF⟩ := F w mg fa _ Y G.T.g hmg
  exact law_callG KX G.T.g G.T.b G.T.builtins G.T.nolimit hg hobj hints (Nat.le_trans hlen hn2) hr hF (fun H hS => hsp H a ns hS)
end K34
open PySem PySem.W PySem.Calls PyProof.Rows
theorem PySem.Challenge.cw_cardsback_k34_whole_last_is_last_holds : PySem.Challenge.rw_cardsback_k34_whole_last_is_last.Holds := by
  w_on; o_law
  refine HandSHeadRun.head_any (r := OpenLaw.row PySem.Challenge.rw_cardsback_k34_whole_last_is_last) (q := view (OpenLaw.row PySem.Challenge.rw_cardsback_k34_whole_last_is_last).prog [54]) (H := K34.hk) (ob := K34.ob) (M := 3000) (loose := K34.loose) (d := HandSHeadRun.topDef (OpenLaw.row PySem.Challenge.rw_cardsback_k34_whole_last_is_last).prog 54) (kwd := []) K34.ob_eq
    (by kernel_rfl) (fun s => by kernel_rfl) K34.run (by kernel_rfl) (by kernel_rfl) (by kernel_rfl) (by rfl) (by first | assumption | decide +kernel) (by decide +kernel) ⟨rfl, rfl, rfl, rfl, rfl, by decide +kernel⟩ ?hw ?hc
  case hw => w_witness2
  case hc =>
    refine K34.walk_ofG (l := PySem.Challenge.rw_cardsback_k34_whole_last_is_last) (n := 63) (k := 23) (x := "_law_script") rfl (by decide) (by kernel_rfl) ⟨rfl, by decide, by decide⟩ ?F
    intro w mg fa h Y G hmg0
    obtain ⟨K, KX, c⟩ := Y
    have hmg : mg ("law" : PySem.Str) = some (.ref fa) := by
      have e : (HandSHeadRun.topDef (OpenLaw.row PySem.Challenge.rw_cardsback_k34_whole_last_is_last).prog 54).name = ("law" : PySem.Str) := by kernel_rfl
      rw [← e]
      exact hmg0
    refine ⟨K, K34.spLaw K, KX, fun H a ns hS => ⟨a, ns, rfl, hS, fun _ => rfl⟩, fun base _ _ => ?_⟩
    obtain ⟨f1, fd1, h1, _, h3, h4⟩ := (K34.facts (P := (PySem.Challenge.rw_cardsback_k34_whole_last_is_last).prog) KX G c base).ex
    have e := h1.symm.trans hmg
    cases e
    exact ⟨fd1, h3, h4⟩
