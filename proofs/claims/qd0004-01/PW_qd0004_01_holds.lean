import PyProof.Rows.All
import Wide.All
import OpenK.AllK
import Wide.FinOn
import KE.KLcTest
import PyProof.ExcInit
import PyProof.ExcClass2
import PyProof.ExcBaseAll.Exception
import PyProof.InstStoreFacts
import PyProof.StationsW
import KE.KTryDeep
import OpenK.KCell
import PyProof.ExcArgsOwn
import PyProof.ExcAttrAll.Exception
import KE.KPairTest
import PyProof.EnumMake
import KE.KEqDat
import PySem.Challenge.RW_qd0004_01
set_option Elab.async false
set_option compiler.extract_closed false
section
set_option compiler.extract_closed false
namespace Mine
theorem hide_goal {P : Prop} (h : ∀ {Q : Prop}, (P → Q) → Q) : P := h id
/-! ### room and small sums, without the context -/
theorem n_le {a c d : Nat} (h : a ≤ c := by assumption) (e : c ≤ d := by decide) : a ≤ d := Nat.le_trans h e
theorem n_s1 {a c : Nat} (h : a ≤ c := by assumption) : a ≤ c + 1 := Nat.le_succ_of_le h
theorem n_s2 {a b c : Nat} (h : a ≤ b + 1 := by assumption) (e : b ≤ c := by assumption) : a ≤ c + 1 := Nat.le_trans h (Nat.succ_le_succ e)
theorem n_eq {a n c d : Nat} (h : a = n := by assumption) (hn : n ≤ c := by assumption) (e : c ≤ d := by decide) : a ≤ d := h ▸ Nat.le_trans hn e
theorem room_0 {d k c R : Nat} (h : d + c < R := by assumption) (e : k ≤ c := by decide) : d + k < R := Nat.lt_of_le_of_lt (Nat.add_le_add_left e d) h
theorem room_1 {d a k c R : Nat} (h : d + c < R := by assumption) (e : a + k ≤ c := by decide) : d + a + k < R := by rw [Nat.add_assoc]; exact room_0 h e
theorem room_z {d c R : Nat} (h : d + c < R := by assumption) : d < R := Nat.lt_of_le_of_lt (Nat.le_add_right d c) h
theorem i_0 {a c d : Int} (h : a ≤ c := by assumption) (e : c ≤ d := by decide) : a ≤ d := Int.le_trans h e
theorem i_1 {a c d : Int} (h : a ≤ c := by assumption) (e : c + 1 ≤ d := by decide) : a + 1 ≤ d := Int.le_trans (Int.add_le_add_right h 1) e
theorem i_2 {a c d : Int} (h : a ≤ c := by assumption) (e : c + 1 + 1 ≤ d := by decide) : a + 1 + 1 ≤ d := Int.le_trans (Int.add_le_add_right (Int.add_le_add_right h 1) 1) e
theorem i_3 {a c d : Int} (h : a ≤ c := by assumption) (e : c + 1 + 1 + 1 ≤ d := by decide) : a + 1 + 1 + 1 ≤ d := Int.le_trans (Int.add_le_add_right (Int.add_le_add_right (Int.add_le_add_right h 1) 1) 1) e
theorem i_n {a c d : Int} {n k : Nat} (h : a ≤ c := by assumption) (hn : n ≤ k := by assumption) (e : c + 1 + 1 + 1 + k ≤ d := by decide) : a + 1 + 1 + 1 + n ≤ d := Int.le_trans (Int.add_le_add (Int.add_le_add_right (Int.add_le_add_right (Int.add_le_add_right h 1) 1) 1) (Int.ofNat_le.mpr hn)) e
theorem u_1 {a : Int} (h : 0 ≤ a := by assumption) : 0 ≤ a + 1 := Int.le_add_one h
theorem u_2 {a : Int} (h : 0 ≤ a := by assumption) : 0 ≤ a + 1 + 1 := u_1 (u_1 h)
theorem u_3 {a : Int} (h : 0 ≤ a := by assumption) : 0 ≤ a + 1 + 1 + 1 := u_1 (u_2 h)
theorem u_n {a : Int} {n : Nat} (h : 0 ≤ a := by assumption) : 0 ≤ a + 1 + 1 + 1 + n := Int.add_nonneg (u_3 h) (Int.natCast_nonneg n)
theorem sub0 {n : Nat} : (((n : Int) - 0).toNat : Int) = n := by rw [Int.sub_zero]; rfl
theorem c_le {n c : Nat} {d : Int} (h : n ≤ c := by assumption) (e : (c : Int) ≤ d := by decide) : (n : Int) ≤ d := Int.le_trans (Int.ofNat_le.mpr h) e
theorem c_lt {n c : Nat} {d : Int} (h : n ≤ c := by assumption) (e : (c : Int) < d := by decide) : (n : Int) < d := Int.lt_of_le_of_lt (Int.ofNat_le.mpr h) e
theorem c_pos {n : Nat} (h : 0 < n := by assumption) : 1 ≤ (n : Int) := Int.ofNat_le.mpr h
theorem c_lo {n : Nat} : -2 ^ 62 ≤ (n : Int) := Int.le_trans (by decide : (-2 ^ 62 : Int) ≤ 0) (Int.natCast_nonneg n)
theorem c_0 {n : Nat} : 0 ≤ (n : Int) := Int.natCast_nonneg n
theorem u_b {a b : Int} (h : 0 ≤ a := by assumption) (e : a ≤ b := by assumption) : 0 ≤ b := Int.le_trans h e
theorem l_lt {a c d : Int} (h : a < c := by assumption) (e : c ≤ d := by decide) : a < d := Int.lt_of_lt_of_le h e
/- a place on the tape after n words of three numbers -/
theorem p_1 {a : Int} {n : Nat} (h : 0 ≤ a := by assumption) : 0 ≤ a + 1 + 3 * (n : Int) := Int.add_nonneg (u_1 h) (Int.mul_nonneg (by decide) (Int.natCast_nonneg n))
theorem p_11 {a : Int} {n : Nat} (h : 0 ≤ a := by assumption) : 0 ≤ a + 1 + 1 + 3 * (n : Int) := Int.add_nonneg (u_2 h) (Int.mul_nonneg (by decide) (Int.natCast_nonneg n))
theorem p_1_1 {a : Int} {n : Nat} (h : 0 ≤ a := by assumption) : 0 ≤ a + 1 + 3 * (n : Int) + 1 := u_1 (p_1 h)
theorem p_1_4 {a : Int} {n : Nat} (h : 0 ≤ a := by assumption) : 0 ≤ a + 1 + 3 * (n : Int) + 1 + 1 + 1 + 1 := u_1 (u_1 (u_1 (u_1 (p_1 h))))
theorem q_1 {a c d : Int} {n k : Nat} (h : a ≤ c := by assumption) (hn : n ≤ k := by assumption) (e : c + 1 + 3 * (k : Int) ≤ d := by decide) : a + 1 + 3 * (n : Int) ≤ d := Int.le_trans (Int.add_le_add (Int.add_le_add_right h 1) (Int.mul_le_mul_of_nonneg_left (Int.ofNat_le.mpr hn) (by decide))) e
theorem q_11 {a c d : Int} {n k : Nat} (h : a ≤ c := by assumption) (hn : n ≤ k := by assumption) (e : c + 1 + 1 + 3 * (k : Int) ≤ d := by decide) : a + 1 + 1 + 3 * (n : Int) ≤ d := Int.le_trans (Int.add_le_add (Int.add_le_add_right (Int.add_le_add_right h 1) 1) (Int.mul_le_mul_of_nonneg_left (Int.ofNat_le.mpr hn) (by decide))) e
theorem q_1_1 {a c d : Int} {n k : Nat} (h : a ≤ c := by assumption) (hn : n ≤ k := by assumption) (e : c + 1 + 3 * (k : Int) + 1 ≤ d := by decide) : a + 1 + 3 * (n : Int) + 1 ≤ d := Int.le_trans (Int.add_le_add_right (q_1 h hn (Int.le_refl _)) 1) e
theorem q_1_4 {a c d : Int} {n k : Nat} (h : a ≤ c := by assumption) (hn : n ≤ k := by assumption) (e : c + 1 + 3 * (k : Int) + 1 + 1 + 1 + 1 ≤ d := by decide) : a + 1 + 3 * (n : Int) + 1 + 1 + 1 + 1 ≤ d := Int.le_trans (Int.add_le_add_right (Int.add_le_add_right (Int.add_le_add_right (Int.add_le_add_right (q_1 h hn (Int.le_refl _)) 1) 1) 1) 1) e
theorem r_1 {a : Int} {n : Nat} : a ≤ a + 1 + 3 * (n : Int) := Int.le_trans (Int.le_add_one (Int.le_refl a)) (Int.le_add_of_nonneg_right (Int.mul_nonneg (by decide) (Int.natCast_nonneg n)))
theorem r_11 {a : Int} {n : Nat} : a ≤ a + 1 + 1 + 3 * (n : Int) := Int.le_trans (Int.le_add_one (Int.le_add_one (Int.le_refl a))) (Int.le_add_of_nonneg_right (Int.mul_nonneg (by decide) (Int.natCast_nonneg n)))
theorem r_2 {a : Int} : a ≤ a + 1 + 1 := Int.le_add_one (Int.le_add_one (Int.le_refl a))
theorem r_1_5 {a : Int} {n : Nat} : a ≤ a + 1 + 3 * (n : Int) + 1 + 1 + 1 + 1 + 1 := Int.le_add_one (Int.le_add_one (Int.le_add_one (Int.le_add_one (Int.le_add_one r_1))))
theorem s_1 {a d : Int} {n k : Nat} (hn : n ≤ k := by assumption) (e : 1 + 3 * (k : Int) ≤ d := by decide) : a + 1 + 3 * (n : Int) ≤ a + d := by rw [Int.add_assoc]; exact Int.add_le_add_left (Int.le_trans (Int.add_le_add_left (Int.mul_le_mul_of_nonneg_left (Int.ofNat_le.mpr hn) (by decide)) 1) e) a
theorem s_11 {a d : Int} {n k : Nat} (hn : n ≤ k := by assumption) (e : 1 + (1 + 3 * (k : Int)) ≤ d := by decide) : a + 1 + 1 + 3 * (n : Int) ≤ a + d := by rw [Int.add_assoc, Int.add_assoc]; exact Int.add_le_add_left (Int.le_trans (Int.add_le_add_left (Int.add_le_add_left (Int.mul_le_mul_of_nonneg_left (Int.ofNat_le.mpr hn) (by decide)) 1) 1) e) a
theorem s_2 {a d : Int} (e : 1 + 1 ≤ d := by decide) : a + 1 + 1 ≤ a + d := by rw [Int.add_assoc]; exact Int.add_le_add_left e a
theorem s_1_5 {a d : Int} {n k : Nat} (hn : n ≤ k := by assumption) (e : 6 + 3 * (k : Int) ≤ d := by decide) : a + 1 + 3 * (n : Int) + 1 + 1 + 1 + 1 + 1 ≤ a + d := by omega
/- the law's own turns: thirty numbers a turn -/
theorem fin_20 {sp sp5 : Int} {i : Nat} (hs1 : sp ≤ 10 + 30 * (i : Int)) (e4 : sp5 ≤ sp + 1 + 20) : sp5 + 8 ≤ 10 + 30 * ((i + 1 : Nat) : Int) := by omega
theorem fin_8 {sp sp5 : Int} {i : Nat} (hs1 : sp ≤ 10 + 30 * (i : Int)) (e4 : sp5 ≤ sp + 1 + 8) : sp5 + 8 ≤ 10 + 30 * ((i + 1 : Nat) : Int) := by omega
theorem big_8 {sp sp5 : Int} (hs1 : sp ≤ 400) (e4 : sp5 ≤ sp + 1 + 8) : sp5 ≤ 500 := Int.le_trans e4 (Int.le_trans (Int.add_le_add_right (Int.add_le_add_right hs1 1) 8) (by decide))
theorem up_1 {sp sp5 : Int} (h : 0 ≤ sp) (e : sp + 1 ≤ sp5) : 0 ≤ sp5 := Int.le_trans (Int.le_add_one h) e
theorem t_0 {x c : Int} (h : x + 8 ≤ c := by assumption) : x ≤ c := Int.le_trans (Int.le_add_of_nonneg_right (by decide)) h
theorem t_1 {x c : Int} (h : x + 8 ≤ c := by assumption) : x + 1 ≤ c := Int.le_trans (Int.add_le_add_left (by decide) x) h
theorem t_2 {x c : Int} (h : x + 8 ≤ c := by assumption) : x + 1 + 1 ≤ c := Int.le_trans (by rw [Int.add_assoc]; exact Int.add_le_add_left (by decide) x) h
theorem t_3 {x c : Int} (h : x + 8 ≤ c := by assumption) : x + 1 + 1 + 1 ≤ c := Int.le_trans (by rw [Int.add_assoc, Int.add_assoc]; exact Int.add_le_add_left (by decide) x) h
theorem t_n {x c : Int} {n : Nat} (h : x + 8 ≤ c := by assumption) (hn : n ≤ 3 := by assumption) : x + 1 + 1 + 1 + n ≤ c := by omega
theorem lo_6 {a : Int} (h : 0 ≤ a := by assumption) : -2 ^ 62 ≤ 6 + a := Int.le_trans (by decide : (-2 ^ 62 : Int) ≤ 6 + 0) (Int.add_le_add_left h 6)
theorem hi_6 {a : Int} (h : a < 7 := by assumption) : 6 + a < 2 ^ 62 := Int.lt_of_lt_of_le (Int.add_lt_add_left h 6) (by decide)
theorem sp_400 {sp : Int} {i : Nat} (h : sp ≤ 10 + 30 * (i : Int)) (hi : i < 12) : sp ≤ 400 := by omega
theorem st_12 {n i : Nat} (h : n ≤ i) (hi : i < 12) : n ≤ 12 := Nat.le_trans h (Nat.le_of_lt hi)
end Mine
end

section
set_option maxRecDepth 100000
open PySem PySem.W PySem.Calls
namespace Mine

/-! ### literals, clauses: data and keys -/
noncomputable abbrev Atom := Int ⊕ Str
noncomputable abbrev Lit := Int × Str × Int

noncomputable def litK (l : Lit) : List Atom := [.inl l.1, .inr l.2.1, .inl l.2.2]
theorem litK_inj {a b : Lit} (h : litK a = litK b) : a = b := by
  obtain ⟨x, s, k⟩ := a; obtain ⟨x', s', k'⟩ := b
  simp only [litK, List.cons.injEq, Sum.inl.injEq, Sum.inr.injEq, and_true] at h
  obtain ⟨rfl, rfl, rfl⟩ := h; rfl

section
variable {prog : Program} {w : World} {A : Around} {E : Value → Shared → Prop} {s : Shared}
theorem eqBool_of_cmp {a b : Value} {c : Bool} {Q : Bool → Shared → Prop} (hab : (a == b) = false) (hf : ∀ x t, a ≠ .float x t)
    (hc : wpAny (model prog w) A (compareOp .Eq a b) (fun v s' => v = .bool c ∧ s' = s) E s) (h : Q c s) : wpAny (model prog w) A (PySem.eqBool a b) Q E s := by
  unfold PySem.eqBool
  refine wpAny_holding ?_
  rw [if_neg (by rw [hab]; exact Bool.false_ne_true)]
  have step : wpAny (model prog w) A (richCompare .Eq a b >>= truthOfDropped) Q E s := by
    refine wpAny_bind (wpAny_mono (show wpAny (model prog w) A (richCompare .Eq a b) _ E s from hc) ?_ fun _ _ e => e)
    rintro v s' ⟨rfl, rfl⟩
    exact wpAny_truthy_bool h
  cases a <;> first | exact step | exact absurd rfl (hf _ _)
end

noncomputable def atomIs : Atom → Value → Bool
  | .inl i, v => Value.isInt i v
  | .inr x, v => Value.isStrOf x v
theorem atomIs_shape : ∀ {k : Atom} {v : Value}, atomIs k v = true → (∃ i t, k = .inl i ∧ v = .int i t) ∨ ∃ x t, k = .inr x ∧ v = .str x t
  | .inl i, v, h => .inl (let ⟨t, e⟩ := Value.isInt_shape h; ⟨i, t, rfl, e⟩)
  | .inr x, v, h => .inr (let ⟨t, e⟩ := Value.isStrOf_shape h; ⟨x, t, rfl, e⟩)
noncomputable def atomHash (w : World) : Atom → Int
  | .inl i => hashInt i
  | .inr x => hashStr w x
noncomputable def atomKind (prog : Program) (w : World) : KeyKind prog w Atom where
  is := atomIs
  hash := atomHash w
  inj := fun v a b ha hb => by
    rcases atomIs_shape ha with ⟨i, t, rfl, rfl⟩ | ⟨x, t, rfl, rfl⟩ <;> rcases atomIs_shape hb with ⟨i', t', rfl, e⟩ | ⟨x', t', rfl, e⟩ <;> cases e <;> rfl
  byValue := fun k v h => by rcases atomIs_shape h with ⟨i, t, rfl, rfl⟩ | ⟨x, t, rfl, rfl⟩ <;> rfl
  pyHash := fun hv h => by
    rcases atomIs_shape hv with ⟨i, t, rfl, rfl⟩ | ⟨x, t, rfl, rfl⟩
    · exact wpAny_pyHash_int h
    · exact wpAny_pyHash_str h
  eqBool := fun hu hv h => by
    rcases atomIs_shape hu with ⟨i, t, rfl, rfl⟩ | ⟨x, t, rfl, rfl⟩ <;> rcases atomIs_shape hv with ⟨i', t', rfl, rfl⟩ | ⟨x', t', rfl, rfl⟩
    · refine wpAny_eqBool_int ?_
      rw [show decide ((Sum.inl i : Atom) = .inl i') = (i == i') from by by_cases e : i = i' <;> simp [e]] at h
      exact h
    · rw [show decide ((Sum.inl i : Atom) = .inr x') = false from by simp] at h
      exact eqBool_of_cmp (by simp) (fun _ _ e => nomatch e) (EqMixed.eq_int_str ⟨rfl, rfl⟩) h
    · rw [show decide ((Sum.inr x : Atom) = .inl i') = false from by simp] at h
      exact eqBool_of_cmp (by simp) (fun _ _ e => nomatch e) (EqMixed.eq_str_int ⟨rfl, rfl⟩) h
    · refine wpAny_eqBool_str ?_
      rw [show decide ((Sum.inr x : Atom) = .inr x') = decide (x = x') from by by_cases e : x = x' <;> simp [e]] at h
      exact h
  «strs» := fun k x t v h => by
    rcases atomIs_shape h with ⟨i, t', rfl, e⟩ | ⟨x', t', rfl, e⟩
    · cases e
    · cases e; cases v <;> rfl
end Mine
end

section
set_option maxRecDepth 100000
open PySem PySem.W PySem.Calls
namespace Mine

section
variable {prog : Program} {w : World}
noncomputable def RefsAre (prog : Program) (w : World) (h : Heap) : List (List Atom) → List Value → Prop
  | [], [] => True
  | k :: ks, v :: vs => (∃ b, v = .ref b ∧ IsTupleKey (atomKind prog w) h k b) ∧ RefsAre prog w h ks vs
  | _, _ => False
theorem RefsAre.inj {h : Heap} : ∀ {x y : List (List Atom)} {vs : List Value}, RefsAre prog w h x vs → RefsAre prog w h y vs → x = y := by
  intro x
  induction x with
  | nil =>
    intro y vs h g
    cases vs with
    | nil => cases y with
      | nil => rfl
      | cons _ _ => exact g.elim
    | cons _ _ => exact h.elim
  | cons k ks ih =>
    intro y vs h g
    cases vs with
    | nil => exact h.elim
    | cons v vs =>
      cases y with
      | nil => exact g.elim
      | cons k' ks' =>
        obtain ⟨⟨b, e, hb⟩, r⟩ := h
        obtain ⟨⟨b', e', hb'⟩, r'⟩ := g
        rw [e] at e'; cases e'
        rw [hb.inj hb', ih r r']
theorem RefsAre.refs {h : Heap} : ∀ {x : List (List Atom)} {vs : List Value}, RefsAre prog w h x vs → ∀ v ∈ vs, ∃ k b, v = .ref b ∧ IsTupleKey (atomKind prog w) h k b := by
  intro x
  induction x with
  | nil =>
    intro vs h v hv
    cases vs with
    | nil => cases hv
    | cons _ _ => exact h.elim
  | cons k ks ih =>
    intro vs h v' hv
    cases vs with
    | nil => exact h.elim
    | cons v vs =>
      obtain ⟨⟨b, e, hb⟩, r⟩ := h
      rcases List.mem_cons.mp hv with rfl | hv
      · exact ⟨k, b, e, hb⟩
      · exact ih r v' hv
theorem RefsAre.length {h : Heap} : ∀ {x : List (List Atom)} {vs : List Value}, RefsAre prog w h x vs → x.length = vs.length
  | [], [], _ => rfl
  | _ :: _, _ :: _, ⟨_, r⟩ => by rw [List.length_cons, List.length_cons, r.length]
  | [], _ :: _, h => h.elim
  | _ :: _, [], h => h.elim

noncomputable def IsTup2 (prog : Program) (w : World) (h : Heap) (ks : List (List Atom)) (a : Addr) : Prop :=
  ∃ o items n, h.get? a = some o ∧ o.cls = .type "tuple" ∧ o.data = .seq items n ∧ RefsAre prog w h ks items.toList
theorem IsTup2.typeIs {s : Shared} {ks : List (List Atom)} {a : Addr} (x : IsTup2 prog w s.heap ks a) : s.TypeIs (.ref a) "tuple" := let ⟨o, _, _, ho, hc, _⟩ := x; ⟨o, ho, hc⟩
theorem IsTup2.inj {h : Heap} {a : Addr} {x y : List (List Atom)} (hx : IsTup2 prog w h x a) (hy : IsTup2 prog w h y a) : x = y := by
  refine hide_goal fun kHide => ?_
  obtain ⟨o, items, n, ho, _, hd, hi⟩ := hx
  obtain ⟨o', items', n', ho', _, hd', hi'⟩ := hy
  refine kHide ?_
  clear kHide
  obtain rfl : o = o' := Option.some.inj (ho.symm.trans ho')
  rw [hd] at hd'
  injection hd' with h1 _
  subst h1
  exact hi.inj hi'
noncomputable def hash2 (prog : Program) (w : World) (ks : List (List Atom)) : Int := reduceHash (Builtin.Tuple.tupleHashOf (ks.map (tupleKeyHash (atomKind prog w))))
noncomputable def draws2 (ks : List (List Atom)) : Nat := (ks.map fun k => k.length + 1).sum + 1

variable {A : Around} {E : Value → Shared → Prop} {s : Shared}
theorem hashes2 {A : Around} : ∀ (ks : List (List Atom)) (vs : List Value) (s : Shared) (b : Array Int) {Q : Array Int → Shared → Prop}, A.units < cLine → RefsAre prog w s.heap ks vs →
    (∀ b' : Array Int, b'.toList = b.toList ++ ks.map (tupleKeyHash (atomKind prog w)) → Q b' { s with toks := s.toks + (ks.map fun k => k.length + 1).sum }) →
    wpAny (model prog w) A (forIn vs b fun x r => do let h ← pyHash x; pure PUnit.unit; pure (ForInStep.yield (r.push h))) Q E s := by
  intro ks
  induction ks with
  | nil =>
    intro vs s b Q _ g h
    cases vs with
    | nil => rw [List.forIn_nil]; exact wpAny_pure (h b (by simp))
    | cons _ _ => exact g.elim
  | cons k ks ih =>
    intro vs s b Q hu g h
    cases vs with
    | nil => exact g.elim
    | cons v vs =>
    obtain ⟨⟨a, e, ha⟩, r⟩ := g
    subst e
    rw [List.forIn_cons]
    refine wpAny_bind (wpAny_bind (wpAny_pyHash_tuple hu ha (wpAny_bind (wpAny_pure (wpAny_pure ?_)))))
    refine ih vs _ _ hu r fun b' hb => ?_
    have := h b' (by rw [hb]; simp)
    simpa [Nat.add_assoc] using this
theorem pyHash2 {ks : List (List Atom)} {a : Addr} {Q : Int → Shared → Prop} (hu : A.units + 1 < cLine) (hk : IsTup2 prog w s.heap ks a) (h : Q (hash2 prog w ks) { s with toks := s.toks + draws2 ks }) :
    wpAny (model prog w) A (pyHash (.ref a)) Q E s := by
  have hT := hk.typeIs
  refine hide_goal fun kHide => ?_
  obtain ⟨o, items, n, ho, _, hd, hi⟩ := hk
  refine kHide ?_
  clear kHide
  refine pyHash_slot (T := "tuple") hT F.slot_tuple_hash F.entry_tuple_hash (F.args_tuple_hash_1 _) (beq_builtin_none _) (.inr (by omega)) ?_
  show wpAny _ _ (Builtin.Tuple.tupleItemsOf (.ref a) >>= _) _ _ s
  refine wpAny_bind (wpAny_tupleItemsOf ho hd ?_)
  refine wpAny_bind ?_
  rw [← Array.forIn_toList]
  refine hashes2 ks items.toList s #[] (by rw [Around.in1_units]; omega) hi fun b hb => ?_
  show wpAny _ _ (retInt (Builtin.Tuple.tupleHashOf b.toList)) _ _ _
  rw [hb]
  exact wpAny_bind (wpAny_mkInt (wpAny_pure ⟨_, _, rfl, by simpa [draws2, hash2, Nat.add_assoc] using h⟩))

theorem eq2_tree {x y : List (List Atom)} {a b : Addr} {P : PySem.Fin → Shared → Prop} (hu : A.units < cLine) (hx : IsTup2 prog w s.heap x a) (hy : IsTup2 prog w s.heap y b) (h : P (.done (.ret (.bool (decide (x = y))))) s) :
    wpAny (model prog w) A (Builtin.«tuple.__eq__» ⟨[.ref a, .ref b], []⟩) P E s := by
  have hTb := hy.typeIs
  refine hide_goal fun kHide => ?_
  obtain ⟨oa, xs, na, hoa, _, hda, hia⟩ := hx
  obtain ⟨ob, ys, nb, hob, _, hdb, hib⟩ := hy
  refine kHide ?_
  clear kHide
  show wpAny _ _ (isInstance (.ref b) (.type "tuple") >>= _) _ _ s
  refine wpAny_bind (wpAny_isInstance hTb isSubtype_tuple_tuple ?_)
  simp only [Bool.not_true, Bool.false_eq_true, if_false]
  refine wpAny_bind (wpAny_tupleItemsOf hoa hda ?_)
  refine wpAny_bind (wpAny_tupleItemsOf hob hdb ?_)
  refine wpAny_bind ?_
  refine wpAny_forIn_list _
    (fun rest r s' => r.1 = none ∧ s' = s ∧ ∃ x' y' xs' ys', rest = List.zip xs' ys' ∧ RefsAre prog w s.heap x' xs' ∧ RefsAre prog w s.heap y' ys' ∧ decide (x' = y') = decide (x = y) ∧ (xs'.length == ys'.length) = (xs.size == ys.size))
    _ ?_ ?_ _ _ ⟨rfl, rfl, x, y, xs.toList, ys.toList, rfl, hia, hib, rfl, by simp⟩
  · rintro ⟨u, v⟩ rest r s' ⟨hr, rfl, x', y', xs', ys', hz, hx', hy', hdec, hlen⟩
    cases xs' with
    | nil => simp at hz
    | cons u' xs'' =>
      cases ys' with
      | nil => simp at hz
      | cons v' ys'' =>
        cases x' with
        | nil => exact hx'.elim
        | cons k1 x'' =>
          cases y' with
          | nil => exact hy'.elim
          | cons k2 y'' =>
            simp only [List.zip_cons_cons, List.cons.injEq, Prod.mk.injEq] at hz
            refine hide_goal fun kHide => ?_
            obtain ⟨⟨rfl, rfl⟩, rfl⟩ := hz
            obtain ⟨⟨b1, rfl, h1⟩, hx''⟩ := hx'
            obtain ⟨⟨b2, rfl, h2⟩, hy''⟩ := hy'
            refine kHide ?_
            clear kHide
            refine wpAny_bind (wpAny_eqBool_tuple hu h1 h2 ?_)
            by_cases hk : k1 = k2
            · subst hk
              rw [decide_eq_true rfl]
              simp only [Bool.not_true, Bool.false_eq_true, if_false]
              refine wpAny_pure ⟨rfl, rfl, x'', y'', xs'', ys'', rfl, hx'', hy'', ?_, by simpa using hlen⟩
              rw [← hdec]
              by_cases hxy : x'' = y''
              · simp [hxy]
              · simp [hxy]
            · rw [decide_eq_false hk]
              simp only [Bool.not_false, if_true]
              have hf : decide (x = y) = false := by rw [← hdec]; simp [hk]
              rw [hf] at h
              exact wpAny_bind (wpAny_pure (wpAny_pure (wpAny_pure h)))
  · rintro ⟨r1, r2⟩ s' ⟨hr, rfl, x', y', xs', ys', hz, hx', hy', hdec, hlen⟩
    simp only at hr
    subst hr
    refine wpAny_pure ?_
    have hfin : (xs.size == ys.size) = decide (x = y) := by
      rw [← hdec, ← hlen]
      have l1 := hx'.length
      have l2 := hy'.length
      by_cases e : x' = y'
      · subst e; rw [← l1, ← l2]; simp
      · rw [decide_eq_false e]
        refine beq_eq_false_iff_ne.mpr fun q => ?_
        cases xs' with
        | nil =>
          cases ys' with
          | nil => cases x' <;> cases y' <;> simp_all
          | cons _ _ => simp at q
        | cons _ _ =>
          cases ys' with
          | nil => simp at q
          | cons _ _ => simp at hz
    show P (.done (.ret (.bool (xs.size == ys.size)))) s'
    rw [hfin]; exact h

theorem eqBool2 {x y : List (List Atom)} {a b : Addr} {Q : Bool → Shared → Prop} (hu : A.units + 1 < cLine) (hx : IsTup2 prog w s.heap x a) (hy : IsTup2 prog w s.heap y b) (h : Q (decide (x = y)) s) :
    wpAny (model prog w) A (PySem.eqBool (.ref a) (.ref b)) Q E s := by
  unfold PySem.eqBool
  try with_reducible refine wpAny_holding ?_
  show wpAny _ _ (if (Value.ref a == Value.ref b) = true then _ else _) Q E s
  by_cases hab : (Value.ref a == Value.ref b) = true
  · rw [if_pos hab]
    have e : a = b := by have := eq_of_beq hab; injection this
    subst e
    obtain rfl := hx.inj hy
    exact wpAny_bind (wpAny_rule (wpAny_pure (by simpa using h)))
  · rw [if_neg hab]
    exact wpAny_bind (wpAny_richCompare_same_room (op := .Eq) hx.typeIs hy.typeIs F.slot_tuple_eq
      (wpAny_call_entry F.slot_tuple_eq hx.typeIs F.entry_tuple_eq (eq2_tree (by rw [Around.in1_units]; exact hu) hx hy ⟨_, rfl, (fun e => nomatch e), wpAny_truthy_bool h⟩) (F.args_tuple_eq_2 _ _)) (by omega))

theorem quiet1 {n : Nat} {ks : List Atom} {a : Addr} {Q : Bool → Shared → Prop} (hk : IsTupleKey (atomKind prog w) s.heap ks a) (h : Q true s) : wpAny (model prog w) A (eqIsQuiet (n + 1) (.ref a)) Q E s := by
  have hT := hk.typeIs
  refine hide_goal fun kHide => ?_
  obtain ⟨o, items, m, ho, _, hd, hi⟩ := hk
  refine kHide ?_
  clear kHide
  unfold eqIsQuiet
  refine wpAny_bind (wpAny_specialOf hT F.slot_tuple_eq.lookup ?_)
  show wpAny _ _ (isInstance (.ref a) (.type "tuple") >>= _) _ _ s
  refine wpAny_bind (wpAny_isInstance hT isSubtype_tuple_tuple ?_)
  simp only [Bool.not_true, Bool.false_eq_true, if_false]
  refine wpAny_bind (wpAny_seqItems ho hd ?_)
  refine wpAny_bind ?_
  show wpAny _ _ (forIn items _ _) _ _ s
  rw [← Array.forIn_toList]
  refine wpAny_forIn_list _ (fun rest r s' => r.1 = none ∧ s' = s ∧ ∀ v ∈ rest, carriedByValue v = true) _ ?_ ?_ _ _ ⟨rfl, rfl, hi.byValue⟩
  · rintro v rest r s' ⟨hr, rfl, hall⟩
    rw [eqIsQuiet_byValue _ (hall v List.mem_cons_self)]
    refine wpAny_bind (wpAny_pure ?_)
    simp only [Bool.not_true, Bool.false_eq_true, if_false]
    exact wpAny_pure ⟨rfl, rfl, fun u hu' => hall u (List.mem_cons_of_mem _ hu')⟩
  · rintro ⟨r1, r2⟩ s' ⟨hr, rfl, _⟩
    simp only at hr
    subst hr
    exact wpAny_pure h
theorem quiet2 {n : Nat} {ks : List (List Atom)} {a : Addr} {Q : Bool → Shared → Prop} (hk : IsTup2 prog w s.heap ks a) (h : Q true s) : wpAny (model prog w) A (eqIsQuiet (n + 2) (.ref a)) Q E s := by
  have hT := hk.typeIs
  refine hide_goal fun kHide => ?_
  obtain ⟨o, items, m, ho, _, hd, hi⟩ := hk
  refine kHide ?_
  clear kHide
  unfold eqIsQuiet
  refine wpAny_bind (wpAny_specialOf hT F.slot_tuple_eq.lookup ?_)
  show wpAny _ _ (isInstance (.ref a) (.type "tuple") >>= _) _ _ s
  refine wpAny_bind (wpAny_isInstance hT isSubtype_tuple_tuple ?_)
  simp only [Bool.not_true, Bool.false_eq_true, if_false]
  refine wpAny_bind (wpAny_seqItems ho hd ?_)
  refine wpAny_bind ?_
  show wpAny _ _ (forIn items _ _) _ _ s
  rw [← Array.forIn_toList]
  refine wpAny_forIn_list _ (fun rest r s' => r.1 = none ∧ s' = s ∧ ∀ v ∈ rest, ∃ k b, v = .ref b ∧ IsTupleKey (atomKind prog w) s.heap k b) _ ?_ ?_ _ _ ⟨rfl, rfl, hi.refs⟩
  · rintro v rest r s' ⟨hr, rfl, hall⟩
    refine hide_goal fun kHide => ?_
    obtain ⟨k, b, rfl, hb⟩ := hall _ List.mem_cons_self
    refine kHide ?_
    clear kHide
    refine wpAny_bind (quiet1 hb ?_)
    simp only [Bool.not_true, Bool.false_eq_true, if_false]
    exact wpAny_pure ⟨rfl, rfl, fun u hu' => hall u (List.mem_cons_of_mem _ hu')⟩
  · rintro ⟨r1, r2⟩ s' ⟨hr, rfl, _⟩
    simp only at hr
    subst hr
    exact wpAny_pure h

theorem not_tuple_of_dict {h : Heap} {d b : Addr} {o ob : Obj} {es : Array DictEntry} {ep : Nat} {items : Array Value} {n : Nat} (ho : h.get? d = some o) (hd : o.data = .dict es ep) (hb : h.get? b = some ob) (hbd : ob.data = .seq items n) : b ≠ d := by
  rintro rfl
  rw [ho] at hb; cases hb
  rw [hd] at hbd; cases hbd
theorem RefsAre.but {h h' : Heap} {d : Addr} {o : Obj} {es : Array DictEntry} {ep : Nat} (ho : h.get? d = some o) (hd : o.data = .dict es ep) (hs : Heap.SameBut d h h') : ∀ {x : List (List Atom)} {vs : List Value}, RefsAre prog w h x vs → RefsAre prog w h' x vs
  | [], [], _ => trivial
  | _ :: _, _ :: _, ⟨⟨b, e, hk⟩, r⟩ => ⟨⟨b, e, hk.keeps ho hd hs⟩, r.but ho hd hs⟩
  | [], _ :: _, h => h.elim
  | _ :: _, [], h => h.elim
end
/-- clauses as keys of a dict -/
noncomputable def clKind (prog : Program) (w : World) : HeapKind prog w (List (List Atom)) where
  is := IsTup2 prog w
  hash := hash2 prog w
  draws := draws2
  room := fun A => A.units + 1 < cLine
  inj := fun hx hy => hx.inj hy
  keeps := fun {_ _ _ _ _ _ _ _} x ho hd hs => by
    refine hide_goal fun kHide => ?_
    obtain ⟨o', items, n, ho', hc, hd', hi⟩ := x
    refine kHide ?_
    clear kHide
    exact ⟨o', items, n, (hs.2 _ (not_tuple_of_dict ho hd ho' hd')).trans ho', hc, hd', hi.but ho hd hs⟩
  pyHash := fun hu hk h => pyHash2 hu hk h
  eqBool := fun hu hx hy h => eqBool2 hu hx hy h
  quiet := fun hk h => quiet2 hk h
end Mine
end

section
set_option maxRecDepth 100000
open PySem PySem.W PySem.Calls
namespace Mine

/-! ### the table of a set: up to seven elements in eight slots, nothing dropped -/
theorem below_go (xs : Array Nat) (j : Nat) : ∀ (fuel lo hi : Nat), hi - lo ≤ fuel → lo ≤ hi → hi ≤ xs.size → (∀ i (h : i < xs.size), i < lo → xs[i] < j) → (∀ i (h : i < xs.size), hi ≤ i → j ≤ xs[i]) → (∀ i i' (h : i < xs.size) (h' : i' < xs.size), i < i' → xs[i] < xs[i']) →
    ∃ r, SetTable.below.go xs j fuel lo hi = r ∧ r ≤ xs.size ∧ (∀ i (h : i < xs.size), i < r → xs[i] < j) ∧ ∀ i (h : i < xs.size), r ≤ i → j ≤ xs[i]
  | 0, lo, hi, hf, hl, hh, h1, h2, _ => by
    refine ⟨lo, rfl, by omega, h1, fun i h hi' => h2 i h (by omega)⟩
  | fuel + 1, lo, hi, hf, hl, hh, h1, h2, hs => by
    unfold SetTable.below.go
    by_cases hlt : lo < hi
    · rw [if_pos hlt]
      have hm : (lo + hi) / 2 < xs.size := by omega
      have hmid : xs.getD ((lo + hi) / 2) j = xs[(lo + hi) / 2] := by simp [Array.getD, hm]
      dsimp only
      rw [hmid]
      by_cases hc : xs[(lo + hi) / 2] < j
      · rw [if_pos hc]
        refine below_go xs j fuel ((lo + hi) / 2 + 1) hi (by omega) (by omega) hh (fun i h hi' => ?_) h2 hs
        by_cases e : i = (lo + hi) / 2
        · subst e; exact hc
        · have := hs i ((lo + hi) / 2) h hm (by omega); omega
      · rw [if_neg hc]
        refine below_go xs j fuel lo ((lo + hi) / 2) (by omega) (by omega) (by omega) h1 (fun i h hi' => ?_) hs
        by_cases e : i = (lo + hi) / 2
        · subst e; omega
        · have := hs ((lo + hi) / 2) i hm h (by omega); omega
    · rw [if_neg hlt]
      exact ⟨lo, rfl, by omega, h1, fun i h hi' => h2 i h (by omega)⟩
theorem below_is (xs : Array Nat) (j : Nat) (hs : ∀ i i' (h : i < xs.size) (h' : i' < xs.size), i < i' → xs[i] < xs[i']) :
    SetTable.below xs j ≤ xs.size ∧ (∀ i (h : i < xs.size), i < SetTable.below xs j → xs[i] < j) ∧ ∀ i (h : i < xs.size), SetTable.below xs j ≤ i → j ≤ xs[i] := by
  refine hide_goal fun kHide => ?_
  obtain ⟨r, e, h⟩ := below_go xs j xs.size 0 xs.size (by omega) (by omega) (Nat.le_refl _) (fun _ _ h => absurd h (by omega)) (fun i h h' => absurd h (by omega)) hs
  refine kHide ?_
  clear kHide
  unfold SetTable.below
  rw [e]; exact h

section
variable {K : Type}
noncomputable abbrev Row (K : Type) := Nat × K × Addr
noncomputable def placesOf (Z : List (Row K)) : Array Nat := (Z.map (·.1)).toArray
noncomputable def elemsOf (hash : K → Int) (Z : List (Row K)) : Array (Int × Value) := (Z.map fun z => (hash z.2.1, Value.ref z.2.2)).toArray
noncomputable def tabOf (Z : List (Row K)) (fi : Nat) (led : Bool) (mo : Nat) (plain : Bool) : SetTable := { mask := 7, place := placesOf Z, dummies := #[], finger := fi, led := led, moves := mo, plain := plain }
noncomputable def Rising (Z : List (Row K)) : Prop := Z.Pairwise fun a b => a.1 < b.1
variable {Z : List (Row K)} {fi mo : Nat} {led plain : Bool}
theorem Rising.at (h : Rising Z) : ∀ i i' (hi : i < (placesOf Z).size) (hi' : i' < (placesOf Z).size), i < i' → (placesOf Z)[i] < (placesOf Z)[i'] := by
  intro i i' hi hi' hlt
  simp only [placesOf, List.size_toArray, List.length_map] at hi hi'
  simp only [placesOf, List.getElem_toArray, List.getElem_map]
  exact List.pairwise_iff_getElem.mp h i i' hi hi' hlt
theorem places_get {i j : Nat} (h : (placesOf Z)[i]? = some j) : ∃ z, Z[i]? = some z ∧ z.1 = j := by
  simp only [placesOf, List.getElem?_toArray, List.getElem?_map, Option.map_eq_some_iff] at h
  exact h
theorem slot_live_of (h : Rising Z) {i : Nat} {z : Row K} (hz : Z[i]? = some z) : (tabOf Z fi led mo plain).slot z.1 = .live i := by
  refine hide_goal fun kHide => ?_
  obtain ⟨hi, he⟩ := List.getElem?_eq_some_iff.mp hz
  refine kHide ?_
  clear kHide
  have hi' : i < (placesOf Z).size := by simpa [placesOf] using hi
  have hpi : (placesOf Z)[i] = z.1 := by simp [placesOf, he]
  refine hide_goal fun kHide => ?_
  obtain ⟨b1, b2, b3⟩ := below_is (placesOf Z) z.1 h.at
  refine kHide ?_
  clear kHide
  have e : SetTable.below (placesOf Z) z.1 = i := by
    rcases Nat.lt_trichotomy i (SetTable.below (placesOf Z) z.1) with q | q | q
    · have := b2 i hi' q; omega
    · exact q.symm
    · have h1 := b3 (SetTable.below (placesOf Z) z.1) (by omega) (Nat.le_refl _)
      have h2 := h.at _ _ (by omega) hi' q
      omega
  unfold SetTable.slot tabOf
  dsimp only
  rw [e, Array.getElem?_eq_getElem hi', hpi]
  simp
theorem slot_of_live {i j : Nat} (h : (tabOf Z fi led mo plain).slot j = .live i) : ∃ z, Z[i]? = some z ∧ z.1 = j := by
  unfold SetTable.slot tabOf at h
  dsimp only at h
  split at h
  · rename_i q
    cases h
    exact places_get (by simpa using q)
  · split at h <;> cases h
theorem slot_not_dummy {j : Nat} : (tabOf Z fi led mo plain).slot j ≠ .dummy := by
  unfold SetTable.slot tabOf
  dsimp only
  split
  · intro h; cases h
  · have : SetTable.has #[] j = false := by unfold SetTable.has; simp
    rw [this]; simp
theorem slot_empty_of {j : Nat} (h : ∀ z ∈ Z, z.1 ≠ j) : (tabOf Z fi led mo plain).slot j = .empty := by
  cases e : (tabOf Z fi led mo plain).slot j with
  | empty => rfl
  | dummy => exact absurd e slot_not_dummy
  | live i =>
    refine hide_goal fun kHide => ?_
    obtain ⟨z, hz, hj⟩ := slot_of_live e
    refine kHide ?_
    clear kHide
    exact absurd hj (h z (List.mem_of_getElem? hz))
end

/-! the slots that a hash visits -/
noncomputable def walk (h : Int) : Nat → Nat × Nat
  | 0 => (SetTable.bits h % 8, SetTable.bits h)
  | n + 1 => SetTable.leap 7 (walk h n).1 (walk h n).2
noncomputable def spot (h : Int) (n : Nat) : Nat := (walk h n).1
noncomputable def standAt (h : Int) (n : Nat) : SetTable.Probe := { j := spot h n, more := 0, i := spot h n, perturb := (walk h n).2, dummy := none }
theorem walk_succ (h : Int) (n : Nat) : walk h (n + 1) = (((walk h n).1 * 5 + 1 + (walk h n).2 / 32) % 8, (walk h n).2 / 32) := rfl
theorem spot_lt (h : Int) : ∀ n, spot h n < 8
  | 0 => Nat.mod_lt _ (by decide)
  | n + 1 => by unfold spot; rw [walk_succ]; exact Nat.mod_lt _ (by decide)
theorem walk_perturb (h : Int) : ∀ n, (walk h n).2 = SetTable.bits h / 32 ^ n
  | 0 => by simp [walk]
  | n + 1 => by rw [walk_succ]; dsimp only; rw [walk_perturb h n, Nat.div_div_eq_div_mul, Nat.pow_succ]
theorem bits_lt (h : Int) : SetTable.bits h < 2 ^ 64 := by
  unfold SetTable.bits
  have h1 := Int.emod_nonneg h (show (2 ^ 64 : Int) ≠ 0 by decide)
  have h2 := Int.emod_lt_of_pos h (show (0 : Int) < 2 ^ 64 by decide)
  omega
theorem perturb_gone (h : Int) : (walk h 13).2 = 0 := by
  rw [walk_perturb]
  have := bits_lt h
  exact Nat.div_eq_of_lt (Nat.lt_of_lt_of_le this (by decide))
theorem perturb_gone' (h : Int) : ∀ m, (walk h (13 + m)).2 = 0
  | 0 => perturb_gone h
  | m + 1 => by rw [show 13 + (m + 1) = (13 + m) + 1 from rfl, walk_succ]; dsimp only; rw [perturb_gone' h m]
noncomputable def lcg : Nat → Nat → Nat
  | i, 0 => i
  | i, m + 1 => (lcg i m * 5 + 1) % 8
theorem spot_late (h : Int) : ∀ m, spot h (13 + m) = lcg (spot h 13) m
  | 0 => rfl
  | m + 1 => by
    have e : spot h (13 + (m + 1)) = ((walk h (13 + m)).1 * 5 + 1 + (walk h (13 + m)).2 / 32) % 8 := rfl
    rw [e, perturb_gone' h m]
    show (spot h (13 + m) * 5 + 1 + 0 / 32) % 8 = _
    rw [spot_late h m]
    simp [lcg]
theorem lcg_all : ∀ i, i < 8 → ∀ r, r < 8 → ∃ m, m < 8 ∧ lcg i m = r := by decide
theorem spot_all (h : Int) (r : Nat) (hr : r < 8) : ∃ n, n < 21 ∧ spot h n = r := by
  refine hide_goal fun kHide => ?_
  obtain ⟨m, hm, e⟩ := lcg_all (spot h 13) (spot_lt h 13) r hr
  refine kHide ?_
  clear kHide
  exact ⟨13 + m, by omega, (spot_late h m).trans e⟩
theorem probeStart_is {K : Type} {Z : List (Row K)} {fi mo : Nat} {led plain : Bool} (h : Int) : (tabOf Z fi led mo plain).probeStart h = standAt h 0 := by
  unfold SetTable.probeStart tabOf standAt spot walk SetTable.runEnd
  have : ¬ (SetTable.bits h % 8 + 9 ≤ 7) := by omega
  simp [this]
theorem advance_is {K : Type} {Z : List (Row K)} {fi mo : Nat} {led plain : Bool} (h : Int) (n : Nat) : (tabOf Z fi led mo plain).advance (standAt h n) = standAt h (n + 1) := by
  unfold SetTable.advance
  have h0 : ¬ (standAt h n).more > 0 := by simp [standAt]
  rw [if_neg h0]
  have hl := spot_lt h (n + 1)
  have e1 : SetTable.leap (tabOf Z fi led mo plain).mask (standAt h n).i (standAt h n).perturb = (spot h (n + 1), (walk h (n + 1)).2) := rfl
  rw [e1]
  dsimp only
  have hr : SetTable.runEnd (tabOf Z fi led mo plain).mask (spot h (n + 1)) = spot h (n + 1) := by
    unfold SetTable.runEnd tabOf
    rw [if_neg (by dsimp only; omega)]
  rw [hr, Nat.sub_self]
  rfl

/-- one look from the n-th stand: the first stand behind it that is empty or bears the hash -/
theorem go_is {K : Type} {hash : K → Int} {Z : List (Row K)} {fi mo : Nat} {led plain : Bool} {f : Nat → Int} (hf : ∀ i z, Z[i]? = some z → f i = hash z.2.1) (h : Int) :
    ∀ (d n fuel : Nat), d < fuel →
      (∀ m, n ≤ m → m < n + d → ∃ i z, Z[i]? = some z ∧ (tabOf Z fi led mo plain).slot (spot h m) = .live i ∧ hash z.2.1 ≠ h) →
      ((tabOf Z fi led mo plain).slot (spot h (n + d)) = .empty → SetTable.probe.go (tabOf Z fi led mo plain) f h fuel (standAt h n) = some (.empty (spot h (n + d)) none)) ∧
      (∀ i z, Z[i]? = some z → (tabOf Z fi led mo plain).slot (spot h (n + d)) = .live i → hash z.2.1 = h → SetTable.probe.go (tabOf Z fi led mo plain) f h fuel (standAt h n) = some (.candidate (spot h (n + d)) i (standAt h (n + d + 1)))) := by
  intro d
  induction d with
  | zero =>
    intro n fuel hfu _
    obtain ⟨fuel, rfl⟩ : ∃ q, fuel = q + 1 := ⟨fuel - 1, by omega⟩
    refine ⟨fun he => ?_, fun i z hz hl hh => ?_⟩
    · unfold SetTable.probe.go
      rw [show (standAt h n).j = spot h n from rfl]
      rw [show n + 0 = n from rfl] at he ⊢
      rw [he]; rfl
    · unfold SetTable.probe.go
      rw [show (standAt h n).j = spot h n from rfl]
      rw [show n + 0 = n from rfl] at hl ⊢
      rw [hl]
      dsimp only
      rw [hf i z hz, hh, advance_is]
      simp
  | succ d ih =>
    intro n fuel hfu hn
    obtain ⟨fuel, rfl⟩ : ∃ q, fuel = q + 1 := ⟨fuel - 1, by omega⟩
    refine hide_goal fun kHide => ?_
    obtain ⟨i, z, hz, hl, hh⟩ := hn n (Nat.le_refl _) (by omega)
    obtain ⟨r1, r2⟩ := ih (n + 1) fuel (by omega) fun m h1 h2 => hn m (by omega) (by omega)
    refine kHide ?_
    clear kHide
    have e : SetTable.probe.go (tabOf Z fi led mo plain) f h (fuel + 1) (standAt h n) = SetTable.probe.go (tabOf Z fi led mo plain) f h fuel (standAt h (n + 1)) := by
      conv => lhs; unfold SetTable.probe.go
      rw [show (standAt h n).j = spot h n from rfl, hl]
      dsimp only
      rw [hf i z hz, advance_is]
      have : (hash z.2.1 == h) = false := by simpa using hh
      rw [this]
      simp
    rw [e, show n + (d + 1) = n + 1 + d by omega]
    exact ⟨r1, r2⟩
end Mine
end

section
set_option maxRecDepth 100000
open PySem PySem.W PySem.Calls
namespace Mine

section
variable {prog : Program} {w : World}
noncomputable def litHash (prog : Program) (w : World) : List Atom → Int := tupleKeyHash (atomKind prog w)
noncomputable def setOb (prog : Program) (w : World) (Z : List (Row (List Atom))) (ep fi : Nat) (led : Bool) (mo : Nat) (plain : Bool) : Obj :=
  { cls := .type "set", data := .set (elemsOf (litHash prog w) Z) ep (tabOf Z fi led mo plain) }
noncomputable def RowsIn (prog : Program) (w : World) (h : Heap) (Z : List (Row (List Atom))) : Prop := ∀ z ∈ Z, IsTupleKey (atomKind prog w) h z.2.1 z.2.2

variable {A : Around} {E : Value → Shared → Prop} {s : Shared} {Z : List (Row (List Atom))} {ep fi mo : Nat} {led plain : Bool} {S x : Addr} {k : List Atom}
theorem fits_tab (hn : Z.length ≤ 7) : (tabOf Z fi led mo plain).fits (elemsOf (litHash prog w) Z).size = true := by
  simp [SetTable.fits, tabOf, placesOf, elemsOf, SetTable.fill, hn]
theorem setState_is (hn : Z.length ≤ 7) (ho : s.heap.get? S = some (setOb prog w Z ep fi led mo plain)) {Q : (Array (Int × Value) × Nat × SetTable) → Shared → Prop}
    (h : Q (elemsOf (litHash prog w) Z, ep, tabOf Z fi led mo plain) s) : wpAny (model prog w) A (setState S) Q E s :=
  wpAny_setState_of ho rfl (fits_tab hn) h
theorem elem_at {i : Nat} {z : Row (List Atom)} (hz : Z[i]? = some z) : (elemsOf (litHash prog w) Z)[i]? = some (litHash prog w z.2.1, .ref z.2.2) := by
  simp [elemsOf, hz]

theorem ofAClass_not {n : Nat} {b : Addr} (hb : IsTupleKey (atomKind prog w) s.heap k b) {Q : Bool → Shared → Prop} (h : Q false s) : wpAny (model prog w) A (ofAClassStatement (n + 1) (.ref b)) Q E s := by
  have hT := hb.typeIs
  refine hide_goal fun kHide => ?_
  obtain ⟨o, items, m, ho, _, hd, hi⟩ := hb
  refine kHide ?_
  clear kHide
  unfold ofAClassStatement
  refine wpAny_bind (wpAny_typeOf (T := "tuple") hT ?_)
  dsimp only
  simp only [beq_self_eq_true, if_true]
  refine wpAny_bind (wpAny_pure ?_)
  simp only [Bool.not_true, Bool.false_eq_true, if_false]
  refine wpAny_bind (wpAny_seqItems ho hd ?_)
  dsimp only
  refine wpAny_bind ?_
  rw [← Array.forIn_toList]
  refine wpAny_forIn_list _ (fun rest r s' => r.1 = none ∧ s' = s ∧ ∀ v ∈ rest, carriedByValue v = true) _ ?_ ?_ _ _ ⟨rfl, rfl, hi.byValue⟩
  · rintro v rest r s' ⟨hr, rfl, hall⟩
    have hv := hall v List.mem_cons_self
    have e : ofAClassStatement n v = pure false := by cases v <;> first | (simp [carriedByValue] at hv; done) | (cases n <;> simp [ofAClassStatement]; done) | (unfold ofAClassStatement; rfl)
    rw [e]
    refine wpAny_bind (wpAny_pure ?_)
    simp only [Bool.false_eq_true, if_false]
    exact wpAny_pure ⟨rfl, rfl, fun u hu' => hall u (List.mem_cons_of_mem _ hu')⟩
  · rintro ⟨r1, r2⟩ s' ⟨hr, rfl, _⟩
    simp only at hr
    subst hr
    exact wpAny_pure h

theorem couldBeSeen_not (hx : IsTupleKey (atomKind prog w) s.heap k x) : ∀ (l : List Value) {Q : Bool → Shared → Prop}, (∀ v ∈ l, ∃ k' b, v = .ref b ∧ IsTupleKey (atomKind prog w) s.heap k' b) → Q false s →
    wpAny (model prog w) A (searchCouldBeSeen (.ref x) l) Q E s := by
  intro l Q hl h
  unfold searchCouldBeSeen
  refine wpAny_bind ?_
  refine wpAny_forIn_list _ (fun rest r s' => r.1 = none ∧ s' = s ∧ ∀ v ∈ rest, ∃ k' b, v = .ref b ∧ IsTupleKey (atomKind prog w) s.heap k' b) _ ?_ ?_ _ _ ⟨rfl, rfl, hl⟩
  · rintro v rest r s' ⟨hr, rfl, hall⟩
    refine hide_goal fun kHide => ?_
    obtain ⟨k', b, rfl, hb⟩ := hall _ List.mem_cons_self
    refine kHide ?_
    clear kHide
    have go : (none : Option Bool) = none ∧ s' = s' ∧ ∀ v ∈ rest, ∃ k' b, v = .ref b ∧ IsTupleKey (atomKind prog w) s'.heap k' b := ⟨rfl, rfl, fun u hu' => hall u (List.mem_cons_of_mem _ hu')⟩
    dsimp only
    split
    · exact wpAny_pure go
    · refine wpAny_bind (quiet1 hx ?_)
      simp only [Bool.not_true, Bool.false_eq_true, if_false]
      refine wpAny_bind (quiet1 hb ?_)
      simp only [Bool.not_true, Bool.false_eq_true, if_false]
      refine wpAny_bind (ofAClass_not hx ?_)
      simp only [Bool.false_eq_true, if_false]
      refine wpAny_bind (ofAClass_not hb ?_)
      simp only [Bool.false_eq_true, if_false]
      exact wpAny_pure go
  · rintro ⟨r1, r2⟩ s' ⟨hr, rfl, _⟩
    simp only at hr
    subst hr
    exact wpAny_pure h
end
end Mine
end

section
set_option maxRecDepth 100000
open PySem PySem.W PySem.Calls
namespace Mine

section
variable {prog : Program} {w : World} {A : Around} {E : Value → Shared → Prop} {s : Shared} {Z : List (Row (List Atom))} {ep fi mo : Nat} {led plain : Bool} {S x : Addr} {k : List Atom}

open Classical in
theorem first_of (P : Nat → Prop) (n : Nat) : ∀ d : Nat, (∃ m, n ≤ m ∧ m < n + d ∧ P m ∧ ∀ m', n ≤ m' → m' < m → ¬ P m') ∨ ∀ m, n ≤ m → m < n + d → ¬ P m
  | 0 => .inr fun m h1 h2 => by omega
  | d + 1 => by
    rcases first_of P n d with ⟨m, h1, h2, h3, h4⟩ | hno
    · exact .inl ⟨m, h1, by omega, h3, h4⟩
    · by_cases hp : P (n + d)
      · exact .inl ⟨n + d, by omega, by omega, hp, hno⟩
      · refine .inr fun m h1 h2 => ?_
        by_cases e : m = n + d
        · subst e; exact hp
        · exact hno m h1 (by omega)

noncomputable def PathTo (w : World) (prog : Program) (Z : List (Row (List Atom))) (t : SetTable) (k : List Atom) (n N : Nat) : Prop :=
  ∀ m, n ≤ m → m < N → ∃ i z, Z[i]? = some z ∧ t.slot (spot (litHash prog w k) m) = .live i ∧ z.2.1 ≠ k

theorem search_from (hR : Rising Z) (hn : Z.length ≤ 7) (ho : s.heap.get? S = some (setOb prog w Z ep fi led mo plain)) (hk : RowsIn prog w s.heap Z) (hx : IsTupleKey (atomKind prog w) s.heap k x) (hu : A.units < cLine) {Q : SetFound → Shared → Prop} (N : Nat) (hN : N < 200)
    (hend : ((tabOf Z fi led mo plain).slot (spot (litHash prog w k) N) = .empty ∧ Q (.free (spot (litHash prog w k) N) false) s) ∨ (∃ i z, Z[i]? = some z ∧ (tabOf Z fi led mo plain).slot (spot (litHash prog w k) N) = .live i ∧ z.2.1 = k ∧ Q (.there none) s)) :
    ∀ (d n fuel : Nat) (stand : Option SetTable.Probe), N = n + d → d < fuel → stand.getD ((tabOf Z fi led mo plain).probeStart (litHash prog w k)) = standAt (litHash prog w k) n → PathTo w prog Z (tabOf Z fi led mo plain) k n N →
      wpAny (model prog w) A (setSearchFrom S (.ref x) (litHash prog w k) true fuel stand) Q E s := by
  intro d
  induction d using Nat.strongRecOn with
  | ind d ih =>
    intro n fuel stand hNd hf hst hp
    obtain ⟨fuel, rfl⟩ : ∃ f, fuel = f + 1 := ⟨fuel - 1, by omega⟩
    unfold setSearchFrom
    refine wpAny_bind (setState_is hn ho ?_)
    dsimp only
    have hg : (tabOf Z fi led mo plain).gaveWay = false := by simp [SetTable.gaveWay, tabOf]
    rw [hg]
    simp only [Bool.false_eq_true, if_false]
    rw [hst]
    generalize hpr : (tabOf Z fi led mo plain).probe _ (litHash prog w k) (standAt (litHash prog w k) n) = met
    have hfh : ∀ (i : Nat) (z : Row (List Atom)), Z[i]? = some z → (fun i : Nat => (((elemsOf (litHash prog w) Z)[i]?.map (·.1)).getD 0)) i = litHash prog w z.2.1 := by
      intro i z hz
      dsimp only
      rw [elem_at hz]; rfl
    have key : (∃ M i z, n ≤ M ∧ M ≤ N ∧ Z[i]? = some z ∧ (tabOf Z fi led mo plain).slot (spot (litHash prog w k) M) = .live i ∧ litHash prog w z.2.1 = litHash prog w k ∧
          ∀ m, n ≤ m → m < M → ∃ i z, Z[i]? = some z ∧ (tabOf Z fi led mo plain).slot (spot (litHash prog w k) m) = .live i ∧ litHash prog w z.2.1 ≠ litHash prog w k) ∨
        ((tabOf Z fi led mo plain).slot (spot (litHash prog w k) N) = .empty ∧ Q (.free (spot (litHash prog w k) N) false) s ∧
          ∀ m, n ≤ m → m < N → ∃ i z, Z[i]? = some z ∧ (tabOf Z fi led mo plain).slot (spot (litHash prog w k) m) = .live i ∧ litHash prog w z.2.1 ≠ litHash prog w k) := by
      have bare : ∀ m, n ≤ m → m < N → ¬ (∃ i z, Z[i]? = some z ∧ (tabOf Z fi led mo plain).slot (spot (litHash prog w k) m) = .live i ∧ litHash prog w z.2.1 = litHash prog w k) →
          ∃ i z, Z[i]? = some z ∧ (tabOf Z fi led mo plain).slot (spot (litHash prog w k) m) = .live i ∧ litHash prog w z.2.1 ≠ litHash prog w k := fun m h1 h2 hno => by
        refine hide_goal fun kHide => ?_
        obtain ⟨i, z, hz, hl, _⟩ := hp m h1 h2
        refine kHide ?_
        clear kHide
        exact ⟨i, z, hz, hl, fun e => hno ⟨i, z, hz, hl, e⟩⟩
      rcases first_of (fun m => ∃ i z, Z[i]? = some z ∧ (tabOf Z fi led mo plain).slot (spot (litHash prog w k) m) = .live i ∧ litHash prog w z.2.1 = litHash prog w k) n d with ⟨M, h1, h2, ⟨i, z, hz, hl, hh⟩, h4⟩ | hno
      · exact .inl ⟨M, i, z, h1, by omega, hz, hl, hh, fun m q1 q2 => bare m q1 (by omega) (h4 m q1 q2)⟩
      · have all := fun m (q1 : n ≤ m) (q2 : m < N) => bare m q1 q2 (hno m q1 (by omega))
        rcases hend with ⟨he, hq⟩ | ⟨i, z, hz, hl, hzk, hq⟩
        · exact .inr ⟨he, hq, all⟩
        · exact .inl ⟨N, i, z, by omega, Nat.le_refl _, hz, hl, by rw [hzk], all⟩
    rcases key with ⟨M, i, z, hM1, hM2, hz, hl, hh, hbare⟩ | ⟨he, hq, hbare⟩
    · have e := (go_is (fi := fi) (mo := mo) (led := led) (plain := plain) hfh (litHash prog w k) (M - n) n 220 (by omega) (fun m q1 q2 => hbare m q1 (by omega))).2 i z hz (by rw [show n + (M - n) = M by omega]; exact hl) hh
      rw [show n + (M - n) = M by omega] at e
      obtain rfl : met = _ := hpr.symm.trans e
      dsimp only
      have hzx : IsTupleKey (atomKind prog w) s.heap z.2.1 z.2.2 := hk z (List.mem_of_getElem? hz)
      have hmem : ∀ v ∈ ((elemsOf (litHash prog w) Z).filter (·.1 == litHash prog w k)).toList.map (·.2), ∃ k' b, v = .ref b ∧ IsTupleKey (atomKind prog w) s.heap k' b := by
        intro v hv
        refine hide_goal fun kHide => ?_
        obtain ⟨p, hp, rfl⟩ := List.mem_map.mp hv
        refine kHide ?_
        clear kHide
        have hp' : p ∈ elemsOf (litHash prog w) Z := (Array.mem_filter.mp (Array.mem_toList_iff.mp hp)).1
        have hp'' : p ∈ Z.map fun z => (litHash prog w z.2.1, Value.ref z.2.2) := by simpa [elemsOf] using hp'
        refine hide_goal fun kHide => ?_
        obtain ⟨z', hz', rfl⟩ := List.mem_map.mp hp''
        refine kHide ?_
        clear kHide
        exact ⟨z'.2.1, z'.2.2, rfl, hk z' hz'⟩
      have hsm : (tabOf Z fi led mo plain).sameMemory mo 7 = some true := by simp [SetTable.sameMemory, tabOf]
      have hq : z.2.1 = k → Q (.there none) s := by
        intro hzk
        rcases hend with ⟨he, hq⟩ | ⟨_, _, _, _, _, hq⟩
        · exfalso
          by_cases hMN : M < N
          · refine hide_goal fun kHide => ?_
            obtain ⟨i', z', hz', hl', hne⟩ := hp M hM1 hMN
            refine kHide ?_
            clear kHide
            rw [hl] at hl'
            cases hl'
            rw [hz] at hz'
            cases hz'
            exact hne hzk
          · have : M = N := by omega
            subst this
            rw [hl] at he
            cases he
        · exact hq
      have hgo : z.2.1 ≠ k → wpAny (model prog w) A (setSearchFrom S (.ref x) (litHash prog w k) true fuel (some (standAt (litHash prog w k) (M + 1)))) Q E s := by
        intro hzk
        have hMN : M < N := by
          rcases Nat.lt_or_ge M N with q | q
          · exact q
          · have : M = N := by omega
            subst this
            rcases hend with ⟨he, _⟩ | ⟨i', z', hz', hl', he, _⟩
            · rw [hl] at he; cases he
            · rw [hl] at hl'
              cases hl'
              rw [hz] at hz'
              cases hz'
              exact absurd he hzk
        exact ih (N - (M + 1)) (by omega) (M + 1) fuel _ (by omega) (by omega) rfl fun m q1 q2 => hp m (by omega) q2
      cases led <;> (
        simp only [tabOf, Bool.not_true, Bool.not_false, Bool.false_eq_true, if_false, if_true]
        try (refine wpAny_bind (couldBeSeen_not hx _ hmem ?_); simp only [Bool.false_eq_true, if_false]))
      all_goals (
        rw [elem_at hz]
        dsimp only
        refine wpAny_bind (wpAny_holding (wpAny_eqBool_tuple hu hzx hx ?_))
        refine wpAny_bind (setState_is hn ho ?_)
        by_cases hzk : z.2.1 = k
        · rw [decide_eq_true hzk]
          simp only [Bool.and_self, if_true]
          exact wpAny_pure (hq hzk)
        · rw [decide_eq_false hzk]
          simp only [Bool.and_false, Bool.false_eq_true, if_false]
          rw [hsm]
          dsimp only
          simp only [if_true]
          rw [hl]
          dsimp only
          rw [elem_at hz]
          dsimp only
          refine wpAny_bind (wpAny_isSame_ref_self (wpAny_bind (wpAny_pure ?_)))
          simp only [if_true]
          exact hgo hzk)
    · have e := (go_is (fi := fi) (mo := mo) (led := led) (plain := plain) hfh (litHash prog w k) d n 220 (by omega) (fun m q1 q2 => hbare m q1 (by omega))).1 (by rw [← hNd]; exact he)
      rw [← hNd] at e
      obtain rfl : met = _ := hpr.symm.trans e
      dsimp only
      exact wpAny_pure hq
end
end Mine
end

section
set_option maxRecDepth 100000
open PySem PySem.W PySem.Calls
namespace Mine

section
variable {prog : Program} {w : World}
structure SetInv (prog : Program) (w : World) (h : Heap) (Z : List (Row (List Atom))) : Prop where
  rising : Rising Z
  small : ∀ z ∈ Z, z.1 < 8
  rows : RowsIn prog w h Z
  nodup : (Z.map (·.2.1)).Nodup
  path : ∀ z ∈ Z, ∃ n, n < 21 ∧ spot (litHash prog w z.2.1) n = z.1 ∧ ∀ m, m < n → ∃ z' ∈ Z, z'.1 = spot (litHash prog w z.2.1) m
theorem SetInv.nil (h : Heap) : SetInv prog w h [] := ⟨List.Pairwise.nil, (fun _ h => by cases h), (fun _ h => by cases h), List.nodup_nil, (fun _ h => by cases h)⟩

theorem toList_ext {α : Type} {a b : Array α} (h : a.toList = b.toList) : a = b := Array.toList_inj.mp h
theorem insert_elems {hash : List Atom → Int} {Z : List (Row (List Atom))} {p j : Nat} {k : List Atom} {x : Addr} :
    SetTable.insertAt (elemsOf hash Z) p (hash k, Value.ref x) = elemsOf hash (Z.take p ++ (j, k, x) :: Z.drop p) := by
  apply toList_ext
  rw [SetTable.toList_insertAt]
  simp [elemsOf, List.map_take, List.map_drop]
theorem insert_places {Z : List (Row (List Atom))} {p j : Nat} {k : List Atom} {x : Addr} :
    SetTable.insertAt (placesOf Z) p j = placesOf (Z.take p ++ (j, k, x) :: Z.drop p) := by
  apply toList_ext
  rw [SetTable.toList_insertAt]
  simp [placesOf, List.map_take, List.map_drop]
theorem put_is {Z : List (Row (List Atom))} {fi mo j : Nat} {led plain : Bool} {k : List Atom} {x : Addr} :
    (tabOf Z fi led mo plain).put j = (tabOf (Z.take (SetTable.below (placesOf Z) j) ++ (j, k, x) :: Z.drop (SetTable.below (placesOf Z) j)) fi led mo plain, SetTable.below (placesOf Z) j) := by
  have hd : SetTable.has #[] j = false := by unfold SetTable.has; simp
  unfold SetTable.put tabOf
  dsimp only
  rw [hd, insert_places (k := k) (x := x)]
  simp
theorem rising_insert {Z : List (Row (List Atom))} {j : Nat} {k : List Atom} {x : Addr} (hR : Rising Z) (hj : ∀ z ∈ Z, z.1 ≠ j) :
    Rising (Z.take (SetTable.below (placesOf Z) j) ++ (j, k, x) :: Z.drop (SetTable.below (placesOf Z) j)) := by
  refine hide_goal fun kHide => ?_
  obtain ⟨b1, b2, b3⟩ := below_is (placesOf Z) j hR.at
  refine kHide ?_
  clear kHide
  have hsz : (placesOf Z).size = Z.length := by simp [placesOf]
  have get : ∀ i (hi : i < Z.length), (placesOf Z)[i]'(by rw [hsz]; exact hi) = (Z[i]).1 := fun i hi => by simp [placesOf]
  have sp : Z.take (SetTable.below (placesOf Z) j) ++ Z.drop (SetTable.below (placesOf Z) j) = Z := List.take_append_drop _ _
  have hR' : Rising (Z.take (SetTable.below (placesOf Z) j) ++ Z.drop (SetTable.below (placesOf Z) j)) := by rw [sp]; exact hR
  refine hide_goal fun kHide => ?_
  obtain ⟨r1, r2, r3⟩ := List.pairwise_append.mp hR'
  refine kHide ?_
  clear kHide
  have lo : ∀ z ∈ Z.take (SetTable.below (placesOf Z) j), z.1 < j := by
    intro z hz
    refine hide_goal fun kHide => ?_
    obtain ⟨i, hi, e⟩ := List.mem_iff_getElem.mp hz
    refine kHide ?_
    clear kHide
    rw [List.length_take] at hi
    rw [List.getElem_take] at e
    have := b2 i (by rw [hsz]; omega) (by omega)
    rw [get i (by omega), e] at this
    exact this
  have hi' : ∀ z ∈ Z.drop (SetTable.below (placesOf Z) j), j < z.1 := by
    intro z hz
    refine hide_goal fun kHide => ?_
    obtain ⟨i, hi, e⟩ := List.mem_iff_getElem.mp hz
    refine kHide ?_
    clear kHide
    rw [List.length_drop] at hi
    rw [List.getElem_drop] at e
    have := b3 (SetTable.below (placesOf Z) j + i) (by rw [hsz]; omega) (by omega)
    rw [get _ (by omega), e] at this
    have ne := hj z (List.mem_of_mem_drop hz)
    omega
  refine List.pairwise_append.mpr ⟨r1, List.pairwise_cons.mpr ⟨fun z hz => hi' z hz, r2⟩, fun a ha b hb => ?_⟩
  rcases List.mem_cons.mp hb with rfl | hb
  · exact lo a ha
  · exact r3 a ha b hb
theorem insert_perm {α : Type} (Z : List α) (p : Nat) (z : α) : List.Perm (Z.take p ++ z :: Z.drop p) (z :: Z) := by
  have := List.perm_middle (a := z) (l₁ := Z.take p) (l₂ := Z.drop p)
  rw [List.take_append_drop] at this
  exact this

theorem IsTupleKey.butSet {h h' : Heap} {ks : List Atom} {a S : Addr} {o : Obj} {es : Array (Int × Value)} {ep : Nat} {t : SetTable} (x : IsTupleKey (atomKind prog w) h ks a) (ho : h.get? S = some o) (hd : o.data = .set es ep t) (hs : Heap.SameBut S h h') :
    IsTupleKey (atomKind prog w) h' ks a := by
  refine hide_goal fun kHide => ?_
  obtain ⟨o', items, n, ho', hc, hd', hi⟩ := x
  refine kHide ?_
  clear kHide
  have hne : a ≠ S := by
    rintro rfl
    obtain rfl : o' = o := Option.some.inj (ho'.symm.trans ho)
    rw [hd] at hd'; exact nomatch hd'
  exact ⟨o', items, n, (hs.2 a hne).trans ho', hc, hd', hi⟩

variable {A : Around} {E : Value → Shared → Prop} {s : Shared} {Z : List (Row (List Atom))} {ep fi mo : Nat} {led plain : Bool} {S x : Addr} {k : List Atom}
theorem hashByValue_any {n : Nat} {b : Addr} (hb : IsTupleKey (atomKind prog w) s.heap k b) {Q : Bool → Shared → Prop} (h : ∀ v, Q v s) : wpAny (model prog w) A (hashByValue (n + 1) (.ref b)) Q E s := by
  have hT := hb.typeIs
  refine hide_goal fun kHide => ?_
  obtain ⟨o, items, m, ho, _, hd, hi⟩ := hb
  refine kHide ?_
  clear kHide
  unfold hashByValue
  refine wpAny_bind (wpAny_specialOf hT F.slot_tuple_hash.lookup ?_)
  dsimp only
  refine wpAny_bind (wpAny_seqItems ho hd ?_)
  refine wpAny_bind ?_
  show wpAny _ _ (forIn items _ _) _ _ s
  rw [← Array.forIn_toList]
  refine wpAny_forIn_list _ (fun rest r s' => r.1 = none ∧ s' = s ∧ ∀ v ∈ rest, carriedByValue v = true) _ ?_ ?_ _ _ ⟨rfl, rfl, hi.byValue⟩
  · rintro v rest r s' ⟨hr, rfl, hall⟩
    have hv := hall v List.mem_cons_self
    have e : ∃ c, hashByValue n v = pure c := by cases v <;> first | (simp [carriedByValue] at hv; done) | (cases n <;> exact ⟨_, rfl⟩)
    refine hide_goal fun kHide => ?_
    obtain ⟨c, e⟩ := e
    refine kHide ?_
    clear kHide
    rw [e]
    refine wpAny_bind (wpAny_pure ?_)
    cases c
    · simp only [Bool.not_false, if_true]
      first
        | exact wpAny_pure (wpAny_pure (h _))
        | exact wpAny_bind (wpAny_pure (wpAny_pure (wpAny_pure (h _))))
        | exact wpAny_bind (wpAny_pure (wpAny_pure (h _)))
    · simp only [Bool.not_true, Bool.false_eq_true, if_false]
      exact wpAny_pure ⟨rfl, rfl, fun u hu' => hall u (List.mem_cons_of_mem _ hu')⟩
  · rintro ⟨r1, r2⟩ s' ⟨hr, rfl, _⟩
    simp only at hr
    subst hr
    exact wpAny_pure (h _)

theorem free_spot : ∀ (n : Nat) (l : List Nat), l.length < n → ∃ r, r < n ∧ r ∉ l := by
  intro n
  induction n with
  | zero => intro l h; exact absurd h (Nat.not_lt_zero _)
  | succ n ih =>
    intro l h
    by_cases q : n ∈ l
    · obtain ⟨r, hr, hl⟩ := ih (l.erase n) (by rw [List.length_erase_of_mem q]; have := List.length_pos_of_mem q; omega)
      exact ⟨r, Nat.lt_succ_of_lt hr, fun m => hl ((List.mem_erase_of_ne (Nat.ne_of_lt hr)).mpr m)⟩
    · exact ⟨n, Nat.lt_succ_self n, q⟩
theorem free_row {Z : List (Row (List Atom))} (h : Z.length ≤ 7) : ∃ r, r < 8 ∧ ∀ z ∈ Z, z.1 ≠ r := by
  obtain ⟨r, hr, hl⟩ := free_spot 8 (Z.map (·.1)) (by rw [List.length_map]; omega)
  exact ⟨r, hr, fun z hz e => hl (List.mem_map.mpr ⟨z, hz, e⟩)⟩
theorem setAddHashed_is (hI : SetInv prog w s.heap Z) (hn : Z.length ≤ 3) (ho : s.heap.get? S = some (setOb prog w Z ep fi led mo plain)) (hx : IsTupleKey (atomKind prog w) s.heap k x) (hu : A.units < cLine) {Q : Bool → Shared → Prop}
    (h1 : k ∈ Z.map (·.2.1) → Q false s)
    (h2 : k ∉ Z.map (·.2.1) → ∀ h' Z' plain', Heap.SameBut S s.heap h' → h'.get? S = some (setOb prog w Z' (ep + 1) fi led mo plain') → SetInv prog w h' Z' → List.Perm (Z'.map (·.2)) ((k, x) :: Z.map (·.2)) → Q true { s with heap := h' }) :
    wpAny (model prog w) A (setAddHashed S (.ref x) (litHash prog w k)) Q E s := by
  have hn7 : Z.length ≤ 7 := by omega
  have hfree : ∃ r, r < 8 ∧ ∀ z ∈ Z, z.1 ≠ r := free_row hn7
  refine hide_goal fun kHide => ?_
  obtain ⟨r, hr8, hr⟩ := hfree
  refine kHide ?_
  clear kHide
  -- the first stand that is empty
  refine hide_goal fun kHide => ?_
  obtain ⟨n0, hn0, e0⟩ := spot_all (litHash prog w k) r hr8
  refine kHide ?_
  clear kHide
  have hex : ∃ m, 0 ≤ m ∧ m < 0 + 21 ∧ (∀ z ∈ Z, z.1 ≠ spot (litHash prog w k) m) ∧ ∀ m', 0 ≤ m' → m' < m → ¬ ∀ z ∈ Z, z.1 ≠ spot (litHash prog w k) m' := by
    rcases first_of (fun m => ∀ z ∈ Z, z.1 ≠ spot (litHash prog w k) m) 0 21 with q | q
    · exact q
    · exact absurd (fun z hz => by rw [e0]; exact hr z hz) (q n0 (Nat.zero_le _) (by omega))
  refine hide_goal fun kHide => ?_
  obtain ⟨M, _, hM, hMe, hMf⟩ := hex
  refine kHide ?_
  clear kHide
  have live : ∀ m, m < M → ∃ i z, Z[i]? = some z ∧ (tabOf Z fi led mo plain).slot (spot (litHash prog w k) m) = .live i ∧ z.1 = spot (litHash prog w k) m := by
    intro m hm
    have := hMf m (Nat.zero_le _) hm
    refine hide_goal fun kHide => ?_
    obtain ⟨z, hz⟩ := Classical.not_forall.mp this
    obtain ⟨hz1, hz2⟩ := Classical.not_imp.mp hz
    refine kHide ?_
    clear kHide
    have hz3 : z.1 = spot (litHash prog w k) m := Classical.not_not.mp hz2
    refine hide_goal fun kHide => ?_
    obtain ⟨i, hi⟩ := List.mem_iff_getElem?.mp hz1
    refine kHide ?_
    clear kHide
    refine ⟨i, z, hi, ?_, hz3⟩
    rw [← hz3]
    exact slot_live_of hI.rising hi
  have hns : byScan (.ref x) (elemsOf (litHash prog w) Z) = false := rfl
  unfold setAddHashed setAddHashedIn
  refine wpAny_holding (wpAny_bind (setState_is hn7 ho ?_))
  dsimp only
  rw [hns]
  simp only [Bool.false_eq_true, if_false]
  refine wpAny_bind ?_
  unfold setSearch
  by_cases hk : k ∈ Z.map (·.2.1)
  · refine hide_goal fun kHide => ?_
    obtain ⟨z, hz, hzk⟩ := List.mem_map.mp hk
    obtain ⟨i, hi⟩ := List.mem_iff_getElem?.mp hz
    obtain ⟨n, hn21, hsp, hpath⟩ := hI.path z hz
    refine kHide ?_
    clear kHide
    rw [hzk] at hsp hpath
    have uniq : ∀ (i' : Nat) (z' : Row (List Atom)), Z[i']? = some z' → z'.2.1 = k → z' = z := by
      intro i' z' hi' hk'
      have := (List.getElem?_inj (List.getElem?_eq_some_iff.mp (show (Z.map (·.2.1))[i']? = some k by rw [List.getElem?_map, hi']; simp [hk'])).1 hI.nodup).mp
        ((show (Z.map (·.2.1))[i']? = some k by rw [List.getElem?_map, hi']; simp [hk']).trans (show (Z.map (·.2.1))[i]? = some k by rw [List.getElem?_map, hi]; simp [hzk]).symm)
      subst this
      rw [hi] at hi'
      exact (Option.some.inj hi').symm
    have hslot : (tabOf Z fi led mo plain).slot (spot (litHash prog w k) n) = .live i := by rw [hsp]; exact slot_live_of hI.rising hi
    -- the first stand at that slot
    rcases first_of (fun m => spot (litHash prog w k) m = z.1) 0 (n + 1) with ⟨N, _, hN, hNe, hNf⟩ | q
    · refine search_from hI.rising hn7 ho hI.rows hx hu N (by omega) (.inr ⟨i, z, hi, by rw [hNe]; exact slot_live_of hI.rising hi, hzk, wpAny_pure (h1 hk)⟩) N 0 100000 none (by omega) (by omega) (probeStart_is _) fun m _ hm => ?_
      have hmn : m < n := by
        rcases Nat.lt_or_ge m n with q | q
        · exact q
        · have : N ≤ n := by omega
          omega
      refine hide_goal fun kHide => ?_
      obtain ⟨z', hz', hz'e⟩ := hpath m hmn
      obtain ⟨i', hi'⟩ := List.mem_iff_getElem?.mp hz'
      refine kHide ?_
      clear kHide
      refine ⟨i', z', hi', by rw [← hz'e]; exact slot_live_of hI.rising hi', fun e => ?_⟩
      have := uniq i' z' hi' e
      subst this
      exact hNf m (Nat.zero_le _) hm hz'e.symm
    · exact absurd hsp (q n (Nat.zero_le _) (by omega))
  · refine search_from hI.rising hn7 ho hI.rows hx hu M (by omega) (.inl ⟨slot_empty_of hMe, ?_⟩) M 0 100000 none (by omega) (by omega) (probeStart_is _) fun m _ hm => ?_
    · refine wpAny_bind (setState_is hn7 ho ?_)
      dsimp only
      rw [put_is (k := k) (x := x)]
      dsimp only
      rw [insert_elems (j := spot (litHash prog w k) M)]
      have hR' := rising_insert (k := k) (x := x) hI.rising hMe
      have hperm := insert_perm Z (SetTable.below (placesOf Z) (spot (litHash prog w k) M)) (spot (litHash prog w k) M, k, x)
      generalize Z.take (SetTable.below (placesOf Z) (spot (litHash prog w k) M)) ++ (spot (litHash prog w k) M, k, x) :: Z.drop (SetTable.below (placesOf Z) (spot (litHash prog w k) M)) = Z' at hR' hperm ⊢
      have hlen : Z'.length = Z.length + 1 := hperm.length_eq
      have hsub : ∀ z ∈ Z, z ∈ Z' := fun z hz => hperm.mem_iff.mpr (List.mem_cons_of_mem _ hz)
      have hmemZ : ∀ z, z ∈ Z' → z = (spot (litHash prog w k) M, k, x) ∨ z ∈ Z := fun z hz => List.mem_cons.mp (hperm.mem_iff.mp hz)
      have hsz : (elemsOf (litHash prog w) Z').size ≤ sizeLine := by
        have : (elemsOf (litHash prog w) Z').size = Z'.length := by simp [elemsOf]
        rw [this, hlen, sizeLine_eq]; omega
      have hfull : ∀ plain', (tabOf Z' fi led mo plain').tooFull = false := by
        intro plain'
        simp [SetTable.tooFull, SetTable.fill, tabOf, placesOf, hlen]
        omega
      have hput : ∀ plain', (Obj.putSet (elemsOf (litHash prog w) Z') (tabOf Z' fi led mo plain')) (setOb prog w Z ep fi led mo plain) = setOb prog w Z' (ep + 1) fi led mo plain' := fun _ => rfl
      have fin : ∀ plain', Q true { s with heap := s.heap.update S (Obj.putSet (elemsOf (litHash prog w) Z') (tabOf Z' fi led mo plain')) } := by
        intro plain'
        have hs := Heap.SameBut.update s.heap S (Obj.putSet (elemsOf (litHash prog w) Z') (tabOf Z' fi led mo plain'))
        have hg := Heap.get?_update_self (Obj.putSet (elemsOf (litHash prog w) Z') (tabOf Z' fi led mo plain')) ho (by rw [hput]; rfl)
        rw [hput] at hg
        refine h2 hk _ Z' plain' hs hg ⟨hR', ?_, ?_, ?_, ?_⟩ ((hperm.map (·.2)).trans (by simp))
        · intro z hz
          rcases hmemZ z hz with rfl | hz
          · exact spot_lt _ _
          · exact hI.small z hz
        · intro z hz
          rcases hmemZ z hz with rfl | hz
          · exact IsTupleKey.butSet hx ho rfl hs
          · exact IsTupleKey.butSet (hI.rows z hz) ho rfl hs
        · have hp2 : List.Perm (Z'.map (·.2.1)) (k :: Z.map (·.2.1)) := (hperm.map (·.2.1)).trans (by simp)
          exact hp2.nodup_iff.mpr (List.nodup_cons.mpr ⟨hk, hI.nodup⟩)
        · intro z hz
          rcases hmemZ z hz with rfl | hz
          · refine ⟨M, by omega, rfl, fun m hm => ?_⟩
            refine hide_goal fun kHide => ?_
            obtain ⟨i, z', hi, _, e⟩ := live m hm
            refine kHide ?_
            clear kHide
            exact ⟨z', hsub z' (List.mem_of_getElem? hi), e⟩
          · refine hide_goal fun kHide => ?_
            obtain ⟨n, q1, q2, q3⟩ := hI.path z hz
            refine kHide ?_
            clear kHide
            exact ⟨n, q1, q2, fun m hm => by obtain ⟨z', a, b⟩ := q3 m hm; exact ⟨z', hsub z' a, b⟩⟩
      have store : ∀ plain', wpAny (model prog w) A (storeSet S (elemsOf (litHash prog w) Z') (tabOf Z' fi led mo plain')) (fun _ s' => Q true s') E s := fun plain' => wpAny_storeSet_of ho rfl (fin plain') hsz
      split
      · refine wpAny_bind (hashByValue_any hx fun v => ?_)
        cases v
        · simp only [Bool.false_eq_true, if_false]
          refine wpAny_bind (wpAny_mono (store false) (fun _ s' hq => ?_) fun _ _ e => e)
          rw [show (!false && SetTable.tooFull { mask := (tabOf Z' fi led mo plain).mask, place := (tabOf Z' fi led mo plain).place, dummies := (tabOf Z' fi led mo plain).dummies, finger := (tabOf Z' fi led mo plain).finger, led := (tabOf Z' fi led mo plain).led, moves := (tabOf Z' fi led mo plain).moves, plain := false }) = false from hfull false]
          simp only [Bool.false_eq_true, if_false]
          exact wpAny_pure hq
        · simp only [if_true]
          refine wpAny_bind (wpAny_mono (store plain) (fun _ s' hq => ?_) fun _ _ e => e)
          rw [hfull plain]
          simp only [Bool.not_false, Bool.and_false, Bool.false_eq_true, if_false]
          exact wpAny_pure hq
      · refine wpAny_bind (wpAny_pure ?_)
        simp only [if_true]
        refine wpAny_bind (wpAny_mono (store plain) (fun _ s' hq => ?_) fun _ _ e => e)
        rw [hfull plain]
        simp only [Bool.not_false, Bool.and_false, Bool.false_eq_true, if_false]
        exact wpAny_pure hq
    · refine hide_goal fun kHide => ?_
      obtain ⟨i, z, hi, hl, _⟩ := live m hm
      refine kHide ?_
      clear kHide
      exact ⟨i, z, hi, hl, fun e => hk (List.mem_map.mpr ⟨z, List.mem_of_getElem? hi, e⟩)⟩
end
end Mine
end

section
set_option maxRecDepth 100000
open PySem PySem.W PySem.Calls
namespace Mine

noncomputable abbrev KA := List Atom × Addr
structure SetAfter (prog : Program) (w : World) (led : Bool) (S : Addr) (wr : List Addr) (h₀ h : Heap) (qs : List KA) (Z : List (Row (List Atom))) : Prop where
  obj : ∃ ep fi mo plain, h.get? S = some (setOb prog w Z ep fi led mo plain)
  inv : SetInv prog w h Z
  keep : ∀ b o, b ≠ S → b ∉ wr → h₀.get? b = some o → h.get? b = some o
  from_ : ∀ q ∈ Z.map (·.2), q ∈ qs
  has : ∀ q ∈ qs, q.1 ∈ Z.map (·.2.1)
  len : Z.length ≤ qs.length

section
variable {prog : Program} {w : World} {A : Around} {R : Result → Shared → Prop} {I S : Addr} {fp wr : List Addr} {n : Nat} {P : Nat → Value → Prop} {St : Nat → Heap → Prop} {led : Bool} {s₀ : Shared} {qs : List KA}
theorem update_loop (W : Walks prog w A.in1 I fp wr n P St) (hSf : S ∉ fp) (hn : n ≤ 3) (hu : A.units + 1 < cLine) (hq : qs.length = n)
    (hP : ∀ i v, P i v → ∃ q, qs[i]? = some q ∧ v = .ref q.2) (hk : ∀ q ∈ qs, IsTupleKey (atomKind prog w) s₀.heap q.1 q.2) (hw : ∀ q ∈ qs, q.2 ≠ S ∧ q.2 ∉ wr) :
    ∀ (d i : Nat) (h : Heap) (tk : Nat) (Z : List (Row (List Atom))), n - i = d → i ≤ n → St i h → SetAfter prog w led S wr s₀.heap h (qs.take i) Z →
      (∀ h' tk' Z', SetAfter prog w led S wr s₀.heap h' qs Z' → R (.ok (.ret .none)) { s₀ with heap := h', toks := tk' }) →
      codeAny (model prog w) A (.builtin "set.update.loop" ⟨[.ref S, .ref I], []⟩) R { s₀ with heap := h, toks := tk } := by
  have hSw : S ∉ wr := fun h => hSf (W.sub _ h)
  intro d
  induction d with
  | zero =>
    intro i h tk Z hd hi hst hZ hR
    have hin : i = n := by omega
    subst hin
    refine codeAny_builtin PyProof.Rows.F.entry_set_update_loop ?_
    rw [Around.under_plainId PyProof.Rows.F.plain_set_update_loop _]
    show wpAny _ A.in1 (pyNext (.ref I) >>= _) _ _ _
    refine wpAny_bind (W.done _ _ _ hst fun h' tk' hm => ?_)
    show wpAny _ A.in1 (ret Value.none) _ _ _
    refine hide_goal fun kHide => ?_
    obtain ⟨⟨ep, fi, mo, plain, ho⟩, inv, kp, fr, hs, hl⟩ := hZ
    refine kHide ?_
    clear kHide
    rw [← hq, List.take_length] at fr hs hl
    refine wpAny_pure (hR h' tk' Z ⟨⟨ep, fi, mo, plain, hm S _ hSw ho⟩, ⟨inv.rising, inv.small, fun z hz => ?_, inv.nodup, inv.path⟩, fun b o b1 b2 e => hm b o b2 (kp b o b1 b2 e), fr, hs, hl⟩)
    have hzq := fr z.2 (List.mem_map_of_mem hz)
    have hz1 := hk _ hzq
    refine hide_goal fun kHide => ?_
    obtain ⟨o, items, m, q1, q2, q3, q4⟩ := hz1
    refine kHide ?_
    clear kHide
    exact ⟨o, items, m, hm _ _ (hw _ hzq).2 (kp _ _ (hw _ hzq).1 (hw _ hzq).2 q1), q2, q3, q4⟩
  | succ d ih =>
    intro i h tk Z hd hi hst hZ hR
    have hlt : i < n := by omega
    refine codeAny_builtin PyProof.Rows.F.entry_set_update_loop ?_
    rw [Around.under_plainId PyProof.Rows.F.plain_set_update_loop _]
    show wpAny _ A.in1 (pyNext (.ref I) >>= _) _ _ _
    refine wpAny_bind (W.item i _ _ _ hlt hst fun v h' tk' hPv hst' hm => ?_)
    refine hide_goal fun kHide => ?_
    obtain ⟨q, hqi, rfl⟩ := hP i v hPv
    refine kHide ?_
    clear kHide
    have hqm : q ∈ qs := List.mem_of_getElem? hqi
    refine hide_goal fun kHide => ?_
    obtain ⟨⟨ep, fi, mo, plain, ho⟩, inv, kp, fr, hs, hl⟩ := hZ
    refine kHide ?_
    clear kHide
    have keep' : ∀ b o, b ≠ S → b ∉ wr → s₀.heap.get? b = some o → h'.get? b = some o := fun b o b1 b2 e => hm b o b2 (kp b o b1 b2 e)
    have key' : ∀ q ∈ qs, IsTupleKey (atomKind prog w) h' q.1 q.2 := fun q hq => by
      refine hide_goal fun kHide => ?_
      obtain ⟨o, items, m, q1, q2, q3, q4⟩ := hk q hq
      refine kHide ?_
      clear kHide
      exact ⟨o, items, m, keep' _ _ (hw q hq).1 (hw q hq).2 q1, q2, q3, q4⟩
    have hS' : h'.get? S = some (setOb prog w Z ep fi led mo plain) := hm S _ hSw ho
    have inv' : SetInv prog w h' Z := ⟨inv.rising, inv.small, fun z hz => key' z.2 (List.mem_of_mem_take (fr z.2 (List.mem_map_of_mem hz))), inv.nodup, inv.path⟩
    have hts : qs.take (i + 1) = qs.take i ++ [q] := by rw [List.take_add_one, hqi]; rfl
    have htl : (qs.take i).length = i := by rw [List.length_take]; omega
    show wpAny _ A.in1 (holding [Value.ref q.2] (setAdd S (.ref q.2)) >>= _) _ _ _
    refine wpAny_bind (wpAny_holding ?_)
    unfold setAdd
    refine wpAny_holding ?_
    refine wpAny_bind (wpAny_pyHash_tuple (by rw [Around.in1_units]; exact hu) (key' q hqm) ?_)
    have next : ∀ (h₂ : Heap) (tk₂ : Nat) (Z₂ : List (Row (List Atom))), Heap.SameBut S h' h₂ → SetAfter prog w led S wr s₀.heap h₂ (qs.take (i + 1)) Z₂ →
        wpAny (model prog w) A.in1 (again (.builtin "set.update.loop" ⟨[.ref S, .ref I], []⟩)) (fun fin s' => match fin with | .done f => R (.ok f) s' | .again c' => c'.quiet = true ∧ codeAny (model prog w) A c' R s') (fun e s' => R (.error e) s') { s₀ with heap := h₂, toks := tk₂ } := by
      intro h₂ tk₂ Z₂ hsb hZ₂
      refine wpAny_pure ⟨plainId_quiet PyProof.Rows.F.plain_set_update_loop _, ih (i + 1) h₂ tk₂ Z₂ (by omega) hlt (W.frame _ h' _ hst' fun b hb o e => ?_) hZ₂ hR⟩
      rw [hsb.2 b (fun h : b = S => hSf (by rw [← h]; exact hb))]; exact e
    refine setAddHashed_is (s := { s₀ with heap := h', toks := _ }) inv' (by rw [htl] at hl; omega) hS' (key' q hqm) (by rw [Around.in1_units]; exact hu) (fun hin => ?_) (fun hnin h₂ Z₂ plain' hsb hg inv₂ hperm => ?_)
    · refine next h' _ Z (Heap.SameBut.refl _ _) ⟨⟨ep, fi, mo, plain, hS'⟩, inv', keep', fun p hp => by rw [hts]; exact List.mem_append_left _ (fr p hp), fun p hp => ?_, by rw [hts, List.length_append]; exact Nat.le_add_right_of_le hl⟩
      rw [hts] at hp
      rcases List.mem_append.mp hp with hp | hp
      · exact hs p hp
      · rw [List.mem_singleton.mp hp]; exact hin
    · refine next h₂ _ Z₂ hsb ⟨⟨ep + 1, fi, mo, plain', hg⟩, inv₂, fun b o b1 b2 e => (hsb.2 b b1).trans (keep' b o b1 b2 e), fun p hp => ?_, fun p hp => ?_, ?_⟩
      · rw [hts]
        rcases List.mem_cons.mp (hperm.mem_iff.mp hp) with rfl | hp
        · exact List.mem_append_right _ (List.mem_singleton.mpr rfl)
        · exact List.mem_append_left _ (fr p hp)
      · have hp2 : List.Perm (Z₂.map (·.2.1)) (q.1 :: Z.map (·.2.1)) := by have hz := hperm.map (·.1); rw [List.map_map, List.map_cons, List.map_map] at hz; exact hz
        rw [hts] at hp
        rcases List.mem_append.mp hp with hp | hp
        · exact hp2.mem_iff.mpr (List.mem_cons_of_mem _ (hs p hp))
        · rw [List.mem_singleton.mp hp]; exact hp2.mem_iff.mpr List.mem_cons_self
      · have := hperm.length_eq
        simp only [List.length_map, List.length_cons] at this
        rw [hts, List.length_append, List.length_singleton, this]
        exact Nat.succ_le_succ hl

end
section
variable {prog : Program} {w : World} {A : Around} {E : Value → Shared → Prop} {s : Shared} {qs : List KA}
theorem set_new_led {a : Value} {Q₁ : Value → Shared → Prop}
    (h : Q₁ (.ref s.heap.objs.size) { s with heap := s.heap.push ({ cls := .type "set", dict := none, data := .set #[] 0 (.fresh 0 0 (!w.params.followText "set-order")) }) }) :
    codeAny (model prog w) A (.call (.builtin "set.__new__") ⟨[.type "set", a], []⟩) (wants Q₁ E) s := by
  refine codeAny_of_tree ?_
  show wpAny _ A.in1 (do checkBuiltinCall "set.__new__" ⟨[.type "set", a], []⟩; again (.builtin "set.__new__" ⟨[.type "set", a], []⟩)) _ _ s
  refine wpAny_bind (wpAny_of_eq (F.newCall_set_1 a) (wpAny_pure ⟨plainId_quiet F.plain_set_new _, codeAny_builtin F.entry_set_new ?_⟩))
  rw [Around.under_plainId F.plain_set_new _]
  unfold Builtin.«set.__new__» Builtin.Frozenset.newClass
  have hsub := sub_set_self
  obtain ⟨hp, g, d, tk, os⟩ := s
  dsimp only
  wp_walk
  refine wpAny_askSetting (wpAny_pure ?_)
  dsimp only
  simp only [newObj]
  refine wpAny_bind (wpAny_alloc (wpAny_pure ?_))
  exact wpAny_pure h

set_option maxHeartbeats 3200000 in
/-- set(l): l a list or a tuple of literals -/
theorem call_set {T : String} {l : Addr} {ol : Obj} {n : Nat} {P : Nat → Value → Prop} {St : Addr → Nat → Heap → Prop} {itO : Obj} {Q : Value → Shared → Prop}
    (hh : A.handled = none) (hu : A.units + 8 < cLine) (hol : s.heap.get? l = some ol) (hcl : ol.cls = .type T) (hs1 : isSubtype (.type T) (.type "set") = pure false) (hs2 : isSubtype (.type T) (.type "frozenset") = pure false) (hnd : (Value.type T == Value.type "dict") = false)
    (hit : ∀ (A' : Around) (h' : Heap) (Q' : Value → Shared → Prop) (E' : Value → Shared → Prop), (∀ b o, s.heap.get? b = some o → h'.get? b = some o) → Q' (.ref h'.objs.size) { s with heap := h'.push itO } → wpAny (model prog w) A' (pyIter (.ref l)) Q' E' { s with heap := h' })
    (W : ∀ (A' : Around) I, A'.handled = none → l ≠ I → Walks prog w A' I [I, l] [I] n P (St I)) (hst : ∀ h' : Heap, (∀ b o, s.heap.get? b = some o → h'.get? b = some o) → St h'.objs.size 0 (h'.push itO))
    (hn : n ≤ 3) (hq : qs.length = n) (hP : ∀ i v, P i v → ∃ q, qs[i]? = some q ∧ v = .ref q.2) (hk : ∀ q ∈ qs, IsTupleKey (atomKind prog w) s.heap q.1 q.2)
    (h : ∀ (h' : Heap) (tk : Nat) Z, SetAfter prog w (!w.params.followText "set-order") s.heap.objs.size [] s.heap h' qs Z → Q (.ref s.heap.objs.size) { s with heap := h', toks := tk }) :
    wpAny (model prog w) A (call (.type "set") [.ref l]) Q E s := by
  refine hide_goal fun kHide => ?_
  obtain ⟨c, tl, hmro⟩ := F.called_set.mro
  refine kHide ?_
  clear kHide
  have hmade := F.called_set.made
  have hsub := F.called_set.sub
  refine wpAny_call (codeAny_of_tree ?_)
  show wpAny _ _ (callAny (.type "set") _) _ _ _
  refine wpAny_pure ⟨Code.quiet_builtin _ (by decide +kernel), codeAny_builtin F.entry_type_call ?_⟩
  rw [Around.under_plain (weight_type_call_type "set" [.ref l] []) rfl]
  have h1 := F.called_set.notType
  have h2 := F.called_set.canCreate
  have hct := F.typeCall_set_1 (.ref l)
  repeat (any_goals (first | assumption | wp_step))
  refine codeAny_mono (set_new_led (a := .ref l) (E := E) (Q₁ := fun obj s₁ => obj = .ref s.heap.objs.size ∧ s₁ = { s with heap := s.heap.push { cls := .type "set", dict := none, data := .set #[] 0 (.fresh 0 0 (!w.params.followText "set-order")) } }) ⟨rfl, rfl⟩) fun r s₁ hr => ?_
  have hlS : l < s.heap.objs.size := Heap.lt_size hol
  cases r with
  | error e => exact hr
  | ok fl =>
    cases fl with
    | ret obj =>
      refine hide_goal fun kHide => ?_
      obtain ⟨rfl, rfl⟩ := hr
      refine kHide ?_
      clear kHide
      have hS : (s.heap.push { cls := .type "set", dict := none, data := .set #[] 0 (.fresh 0 0 (!w.params.followText "set-order")) }).get? s.heap.objs.size = some { cls := .type "set", dict := none, data := .set #[] 0 (.fresh 0 0 (!w.params.followText "set-order")) } := Heap.get?_push_size _ rfl
      have hT : Shared.TypeIs { s with heap := s.heap.push { cls := .type "set", dict := none, data := .set #[] 0 (.fresh 0 0 (!w.params.followText "set-order")) } } (.ref s.heap.objs.size) "set" := ⟨_, hS, rfl⟩
      have hli := F.called_set.init.lookup
      have hbi := F.called_set.init.bind (.ref s.heap.objs.size)
      generalize hled : (!w.params.followText "set-order") = led at *
      repeat (any_goals (first | assumption | wp_step))
      refine codeAny_mono (codeAny_call_builtin (R := wants (fun r s₂ => r = .none ∧ ∃ h' tk Z, s₂ = { s with heap := h', toks := tk } ∧ SetAfter prog w led s.heap.objs.size [] s.heap h' qs Z) E) F.called_set.init.plain F.entry_set_init (check_set_init_1 hT ?_)) fun r₂ s₂ hr₂ => ?_
      · refine hide_goal fun kHide => ?_
        obtain ⟨ocls, odict, odata, oslots⟩ := ol
        refine kHide ?_
        clear kHide
        simp only at hcl
        subst hcl
        have hol' : (s.heap.push { cls := .type "set", dict := none, data := .set #[] 0 (.fresh 0 0 led) }).get? l = some { cls := .type T, dict := odict, data := odata, slots := oslots } := Heap.get?_push_of_some _ hol
        have up : ∀ b o, s.heap.get? b = some o → (s.heap.push { cls := .type "set", dict := none, data := .set #[] 0 (.fresh 0 0 led) }).get? b = some o := fun b o e => Heap.get?_push_of_some _ e
        unfold Builtin.«set.__init__» noKeywords Builtin.Frozenset.updateFrom
        generalize hPI : pyIter = PI
        wp_walk
        subst hPI
        refine hit _ _ _ _ up ?_
        refine wpAny_bind (wpAny_runValue ?_)
        have hI : (s.heap.push { cls := .type "set", dict := none, data := .set #[] 0 (.fresh 0 0 led) }).objs.size = s.heap.objs.size + 1 := Heap.size_push _ _
        have hneI : l ≠ (s.heap.push { cls := .type "set", dict := none, data := .set #[] 0 (.fresh 0 0 led) }).objs.size := by rw [hI]; exact Nat.ne_of_lt (Nat.lt_succ_of_lt hlS)
        have hSf : s.heap.objs.size ∉ [(s.heap.push { cls := .type "set", dict := none, data := .set #[] 0 (.fresh 0 0 led) }).objs.size, l] := by
          rw [hI]; simp only [List.mem_cons, List.mem_singleton, List.not_mem_nil, or_false, not_or]
          exact ⟨Nat.ne_of_lt (Nat.lt_succ_self _), Nat.ne_of_gt hlS⟩
        have hlt : ∀ q ∈ qs, q.2 < s.heap.objs.size := fun q hq => by obtain ⟨o, items, m, q1, _⟩ := hk q hq; exact Heap.lt_size q1
        refine update_loop (prog := prog) (w := w) (s₀ := s) (led := led) (W A.in1.in1.in1 _ (by simp [hh]) hneI) hSf hn (by simp only [Around.in1_units]; omega) hq hP hk
          (fun q hq' => ⟨Nat.ne_of_lt (hlt q hq'), by rw [hI]; simp only [List.mem_singleton]; exact Nat.ne_of_lt (Nat.lt_succ_of_lt (hlt q hq'))⟩) (n - 0) 0 _ _ [] rfl (Nat.zero_le _) (hst _ up)
          ⟨⟨0, 0, 0, true, Heap.get?_push_of_some _ hS⟩, .nil _, fun b o _ _ e => Heap.get?_push_of_some _ (up b o e), (fun q hq' => by cases hq'), (fun q hq' => by cases hq'), Nat.zero_le _⟩ fun h' tk' Z' hZ' => ?_
        refine wpAny_pure ?_
        show wpAny _ _ (ret Value.none) _ _ _
        refine wpAny_pure ⟨rfl, h', tk', Z', rfl, hZ'.obj, hZ'.inv, fun b o b1 _ e => hZ'.keep b o b1 ?_ e, hZ'.from_, hZ'.has, hZ'.len⟩
        rw [hI]; simp only [List.mem_singleton]
        exact Nat.ne_of_lt (Nat.lt_succ_of_lt (Heap.lt_size e))
      · cases r₂ with
        | error e => exact hr₂
        | ok fl₂ =>
          cases fl₂ with
          | ret r =>
            refine hide_goal fun kHide => ?_
            obtain ⟨rfl, h', tk, Z, rfl, hZ⟩ := hr₂
            refine kHide ?_
            clear kHide
            repeat (any_goals (first | assumption | wp_step))
            exact h _ _ _ hZ
          | _ => exact hr₂.elim
    | _ => exact hr.elim
end
end Mine
end

section
set_option maxRecDepth 100000
open PySem PySem.W PySem.Calls
namespace Mine

/-! ### an iterator over a set -/
theorem owner_si : Manifest.owners.lookup (String.ofList ['r', 'o', 't', 'a', 'r', 'e', 't', 'i', '_', 't', 'e', 's'].reverse) = some Manifest.sig_set_iterator := by kernel_rfl
theorem slot_si_next : Slot "set_iterator" "__next__" "set_iterator.__next__" :=
  .of (owner := "set_iterator") (n := "__next__") (by rw [typeLookup_type, builtinLookup_eq_fast]; kernel_rfl) (by decide +kernel) (by decide +kernel) (by decide +kernel)
    (by first | exact .inl (by decide +kernel) | exact .inr (by decide +kernel)) (by rw [isSubtype_type]; kernel_rfl)
theorem entry_si_next : entryFor table "set_iterator.__next__" = some Builtin.«set_iterator.__next__» := entryFor_of_tree (by kernel_rfl)
theorem args_si_next (a : Value) : argsOk "set_iterator.__next__" ⟨[a], []⟩ := by
  unfold argsOk; rw [signature?_of (id := "set_iterator.__next__") (n := ['_', '_', 't', 'x', 'e', 'n', '_', '_']) (o := ['r', 'o', 't', 'a', 'r', 'e', 't', 'i', '_', 't', 'e', 's']) (by kernel_rfl) owner_si]; kernel_rfl
theorem slot_si_iter : Slot "set_iterator" "__iter__" "set_iterator.__iter__" :=
  .of (owner := "set_iterator") (n := "__iter__") (by rw [typeLookup_type, builtinLookup_eq_fast]; kernel_rfl) (by decide +kernel) (by decide +kernel) (by decide +kernel)
    (by first | exact .inl (by decide +kernel) | exact .inr (by decide +kernel)) (by rw [isSubtype_type]; kernel_rfl)
theorem args_si_iter (a : Value) : argsOk "set_iterator.__iter__" ⟨[a], []⟩ := by
  unfold argsOk; rw [signature?_of (id := "set_iterator.__iter__") (n := ['_', '_', 'r', 'e', 't', 'i', '_', '_']) (o := ['r', 'o', 't', 'a', 'r', 'e', 't', 'i', '_', 't', 'e', 's']) (by kernel_rfl) owner_si]; kernel_rfl
theorem entry_set_iter : entryFor table "set.__iter__" = some Builtin.«frozenset.__iter__» :=
  entryFor_alias (id' := "frozenset.__iter__") (by kernel_rfl) rfl (by decide +kernel) (by kernel_rfl)
/-- the iterator's object -/
noncomputable def sit (first : Value) (i S n ep : Nat) : Obj := { cls := .type "set_iterator", data := .fields #[first, .int i 0, .ref S, .int n 0, .int ep 0] }

theorem erase_perm {α : Type} {l : List α} {i : Nat} {x : α} (h : l[i]? = some x) : List.Perm (x :: l.eraseIdx i) l := by
  refine hide_goal fun kHide => ?_
  obtain ⟨hi, hx⟩ := List.getElem?_eq_some_iff.mp h
  refine kHide ?_
  clear kHide
  rw [List.eraseIdx_eq_take_drop_succ]
  have e : l = l.take i ++ x :: l.drop (i + 1) := by
    have h1 := (List.take_append_drop i l).symm
    rw [List.drop_eq_getElem_cons hi, hx] at h1
    exact h1
  refine List.Perm.trans ?_ (List.Perm.of_eq e.symm)
  exact List.perm_middle.symm
theorem pick_go {α : Type} (next : Nat → Nat) : ∀ (fuel k : Nat) (left : List α) (out : Array α), left.length ≤ fuel → List.Perm (pickOrder.go next fuel k left out).toList (out.toList ++ left) := by
  intro fuel
  induction fuel with
  | zero =>
    intro k left out h
    have : left = [] := List.length_eq_zero_iff.mp (by omega)
    subst this
    unfold pickOrder.go; simp
  | succ fuel ih =>
    intro k left out h
    unfold pickOrder.go
    cases hl : left[next k % left.length]? with
    | none =>
      have : left = [] := by
        cases left with
        | nil => rfl
        | cons a r =>
          have := List.getElem?_eq_none_iff.mp hl
          have h2 := Nat.mod_lt (next k) (show 0 < (a :: r).length by simp)
          omega
      subst this
      simp
    | some x =>
      dsimp only
      refine hide_goal fun kHide => ?_
      obtain ⟨hi, hx⟩ := List.getElem?_eq_some_iff.mp hl
      refine kHide ?_
      clear kHide
      refine (ih (k + 1) _ _ (by rw [List.length_eraseIdx]; split <;> omega)).trans ?_
      rw [Array.toList_push, List.append_assoc]
      refine List.Perm.append_left _ ?_
      exact erase_perm hl
theorem pick_perm {α : Type} (next : Nat → Nat) (xs : Array α) : List.Perm (pickOrder next xs).toList xs.toList := by
  have := pick_go next xs.size 0 xs.toList #[] (by simp)
  unfold pickOrder
  simpa using this

section
variable {prog : Program} {w : World} {A : Around} {E : Value → Shared → Prop} {s : Shared} {Z : List (Row (List Atom))} {ep fi mo : Nat} {led plain : Bool} {S I T : Addr}
theorem choose_is {M : Model} {src : Source} {n : Nat} {Q : Nat → Shared → Prop} (hn : n ≠ 0) (h : ∀ j d, j < n → Q j { s with drawn := d }) : wpAny M A (choose src n) Q E s :=
  fun _ _ _ => ⟨hn, h _ _ (Nat.mod_lt _ (Nat.pos_of_ne_zero hn))⟩
theorem draw_order {α : Type} : ∀ (n : Nat) (xs : List α) (s : Shared) {Q : List α → Shared → Prop}, n = xs.length → (∀ ys d, List.Perm ys xs → Q ys { s with drawn := d }) → wpAny (model prog w) A (drawOrder n xs) Q E s := by
  intro n
  induction n with
  | zero =>
    intro xs s Q hn h
    cases xs with
    | nil => unfold drawOrder; exact wpAny_pure (h [] s.drawn (List.Perm.refl _))
    | cons x r => cases hn
  | succ n ih =>
    intro xs s Q hn h
    cases xs with
    | nil => cases hn
    | cons x r =>
    unfold drawOrder
    refine wpAny_bind (choose_is (by simp) fun j d hj => ?_)
    have hx : (x :: r)[j]? = some ((x :: r)[j]) := List.getElem?_eq_getElem hj
    rw [hx]
    dsimp only
    refine wpAny_bind (ih _ _ ?_ fun ys d' hp => wpAny_pure (h _ d' ?_))
    · rw [List.length_eraseIdx, if_pos hj]
      simp only [List.length_cons] at hn ⊢
      omega
    · exact (List.Perm.cons _ hp).trans (erase_perm hx)
end
end Mine
end

section
set_option maxRecDepth 100000
open PySem PySem.W PySem.Calls
namespace Mine

section
variable {prog : Program} {w : World} {A : Around} {E : Value → Shared → Prop} {s : Shared} {Z : List (Row (List Atom))} {ep fi mo : Nat} {led plain : Bool} {S I T : Addr}
noncomputable def refsOf (Z : List (Row (List Atom))) : List Value := Z.map fun z => .ref z.2.2

theorem entries_is (hn : Z.length ≤ 7) (ho : s.heap.get? S = some (setOb prog w Z ep fi led mo plain)) {Q : Array (Int × Value) → Shared → Prop}
    (h : Q (elemsOf (litHash prog w) Z) s) : wpAny (model prog w) A (setEntries S) Q E s := wpAny_setEntries_of ho rfl (fits_tab hn) h
theorem size_elems {hash : List Atom → Int} : (elemsOf hash Z).size = Z.length := by simp [elemsOf]

/-- the iterator stands, the set has as many elements as it had: on to the two ways -/
theorem next_open {first : Value} {i : Nat} {Q : PySem.Fin → Shared → Prop} (hit : s.heap.get? I = some (sit first i S Z.length ep)) (hn : Z.length ≤ 7) (ho : s.heap.get? S = some (setOb prog w Z ep fi led mo plain))
    (h : wpAny (model prog w) A (if let .int slot _ := first then (do
        match ← setNext S slot.toNat i ep with
        | some (x, next) =>
          setField (.ref I) 0 (rawInt next)
          setField (.ref I) 1 (rawInt (i + 1))
          ret x
        | none => setField (.ref I) 2 .none; raiseNew (← newExc (.type "StopIteration") []))
      else (do
        let some places ← seqItems? first | unsupported "internal:set_iterator"
        match places[i]? with
        | some (.int place _) =>
          let x ← setNextDrawn S place.toNat ep
          setField (.ref I) 1 (rawInt (i + 1))
          ret x
        | some _ => unsupported "internal:set_iterator"
        | none => setField (.ref I) 0 (rawInt 0); setField (.ref I) 2 .none; raiseNew (← newExc (.type "StopIteration") []))) Q E s) :
    wpAny (model prog w) A (Builtin.«set_iterator.__next__» ⟨[.ref I], []⟩) Q E s := by
  unfold Builtin.«set_iterator.__next__»
  show wpAny _ _ (fieldsOf (.ref I) >>= _) _ _ s
  refine wpAny_bind (wpAny_fieldsOf hit rfl ?_)
  dsimp only
  refine wpAny_bind (entries_is hn ho ?_)
  rw [size_elems]
  simp only [bne_self_eq_false, Bool.false_eq_true, if_false]
  simp only [Int.toNat_natCast]
  exact h

theorem stop_raise {M : Model} {α : Type} {Q : α → Shared → Prop} (hh : A.handled = none) (h : ∀ h' e, (∀ b o, s.heap.get? b = some o → h'.get? b = some o) → (∃ oe, h'.get? e = some oe ∧ oe.cls = .type "StopIteration") → E (.ref e) { s with heap := h' }) :
    wpAny M A (newExc (.type "StopIteration") [] >>= fun e => (raiseNew e : Sem α)) Q E s := by
  refine wpAny_bind ?_
  simp only [newExc, newTuple]
  refine wpAny_bind (wpAny_newObj_type ?_ (by size_fits))
  refine wpAny_bind (m := firstArgMember _ _) (wpAny_of_eq (a := Value.none) (by first | rfl | (simp only [firstArgMember]; rfl)) ?_)
  refine wpAny_newObj_type ?_ (by size_fits)
  simp only [raiseNew]
  refine wpAny_bind (wpAny_handled ?_)
  rw [hh]
  refine wpAny_bind (wpAny_pure (wpAny_throw ?_))
  exact h _ _ (fun b o e => Heap.get?_push_of_some _ (Heap.get?_push_of_some _ e)) ⟨_, Heap.get?_push_size _ rfl, rfl⟩

/-- next(it), the body told -/
theorem next_of {first : Value} {i : Nat} {Q : Option Value → Shared → Prop} (hit : s.heap.get? I = some (sit first i S Z.length ep))
    (h : wpAny (model prog w) A.in1 (Builtin.«set_iterator.__next__» ⟨[.ref I], []⟩) (fun fin s' => ∃ v, fin = .done (.ret v) ∧ Q (some v) s') (fun e s' => (∃ b oe, e = .ref b ∧ s'.heap.get? b = some oe ∧ oe.cls = .type "StopIteration") ∧ Q none s') s) :
    wpAny (model prog w) A (pyNext (.ref I)) Q E s := by
  have hT : s.TypeIs (.ref I) "set_iterator" := ⟨_, hit, rfl⟩
  unfold pyNext
  refine wpAny_bind (wpAny_attempt (wpAny_mono (wpAny_callSpecial?_slot (name := Str.ofString "__next__") (Q := fun v s' => ∃ x, v = some x ∧ Q (some x) s') (E := fun e s' => (∃ b oe, e = .ref b ∧ s'.heap.get? b = some oe ∧ oe.cls = .type "StopIteration") ∧ Q none s') hT slot_si_next
    (wpAny_call_entry slot_si_next hT entry_si_next (wpAny_mono h (fun fin s' hf => ?_) fun _ _ e => e) (args_si_next _))) (fun v s' hv => ?_) fun e s' he => ?_))
  · refine hide_goal fun kHide => ?_
    obtain ⟨v, rfl, hq⟩ := hf
    refine kHide ?_
    clear kHide
    exact ⟨v, rfl, v, rfl, hq⟩
  · refine hide_goal fun kHide => ?_
    obtain ⟨x, rfl, hq⟩ := hv
    refine kHide ?_
    clear kHide
    exact wpAny_pure hq
  · refine hide_goal fun kHide => ?_
    obtain ⟨⟨b, oe, rfl, hb, hc⟩, hq⟩ := he
    refine kHide ?_
    clear kHide
    dsimp only
    refine wpAny_bind (wpAny_isInstance (T := "StopIteration") (b := true) ⟨_, hb, hc⟩ isSubtype_stop ?_)
    exact wpAny_pure hq

noncomputable def upd1 (f : Array Value → Array Value) : Obj → Obj := Obj.mapFields f
theorem setField_si {first : Value} {i k : Nat} {v : Value} {vs : Array Value} {o : Obj} {Q : Unit → Shared → Prop} (ho : s.heap.get? I = some o) (hd : o.data = .fields vs) (hk : k < vs.size)
    (h : ∀ h', Heap.SameBut I s.heap h' → (∀ o', o' = Obj.mapFields (·.setIfInBounds k v) o → h'.get? I = some o') → Q () { s with heap := h' }) : wpAny (model prog w) A (setField (.ref I) k v) Q E s := by
  refine wpAny_setField ho hd hk (h _ (Heap.SameBut.update ..) fun o' e => ?_)
  subst e
  exact Heap.get?_update_self _ ho (Obj.isFreed_of_fields (Obj.data_mapFields hd _))

/-- by a drawn order -/
theorem next_drawn {ord : List Nat} {i j : Nat} {z : Row (List Atom)} {oT : Obj} {nT : Nat} {Q : Option Value → Shared → Prop} (hn : Z.length ≤ 7) (hit : s.heap.get? I = some (sit (.ref T) i S Z.length ep)) (ho : s.heap.get? S = some (setOb prog w Z ep fi led mo plain))
    (hT : s.heap.get? T = some oT) (hTd : oT.data = .seq (ord.map fun (k : Nat) => rawInt k).toArray nT) (hj : ord[i]? = some j) (hz : Z[j]? = some z)
    (h : ∀ h', Heap.SameBut I s.heap h' → h'.get? I = some (sit (.ref T) (i + 1) S Z.length ep) → Q (some (.ref z.2.2)) { s with heap := h' }) :
    wpAny (model prog w) A (pyNext (.ref I)) Q E s := by
  refine next_of hit (next_open hit hn ho ?_)
  dsimp only
  refine wpAny_bind (wpAny_seqItems hT hTd ?_)
  dsimp only
  have e1 : (ord.map fun (k : Nat) => rawInt k).toArray[i]? = some (.int j 0) := by simp [hj, rawInt]
  rw [e1]
  dsimp only
  refine wpAny_bind ?_
  unfold setNextDrawn
  refine wpAny_bind (setState_is hn ho ?_)
  dsimp only
  simp only [bne_self_eq_false, Bool.false_eq_true, if_false, Int.toNat_natCast]
  rw [elem_at hz]
  dsimp only
  refine wpAny_pure (wpAny_bind (setField_si (first := .none) (i := 0) hit rfl (by simp) fun h' hs hg => ?_))
  exact wpAny_pure ⟨_, rfl, h h' hs (hg _ rfl)⟩
theorem done_drawn {ord : List Nat} {i : Nat} {oT : Obj} {nT : Nat} {Q : Option Value → Shared → Prop} (hh : A.handled = none) (hn : Z.length ≤ 7) (hit : s.heap.get? I = some (sit (.ref T) i S Z.length ep)) (ho : s.heap.get? S = some (setOb prog w Z ep fi led mo plain))
    (hT : s.heap.get? T = some oT) (hTd : oT.data = .seq (ord.map fun (k : Nat) => rawInt k).toArray nT) (hj : ord[i]? = none)
    (h : ∀ h', (∀ b o, b ≠ I → s.heap.get? b = some o → h'.get? b = some o) → Q none { s with heap := h' }) :
    wpAny (model prog w) A (pyNext (.ref I)) Q E s := by
  refine next_of hit (next_open hit hn ho ?_)
  dsimp only
  refine wpAny_bind (wpAny_seqItems hT hTd ?_)
  dsimp only
  have e1 : (ord.map fun (k : Nat) => rawInt k).toArray[i]? = none := by simp [hj]
  rw [e1]
  dsimp only
  refine wpAny_bind (setField_si (first := .none) (i := 0) hit rfl (by simp) fun h1 hs1 hg1 => ?_)
  refine wpAny_bind (setField_si (first := .none) (i := 0) (hg1 _ rfl) rfl (by simp [sit, Obj.mapFields]) fun h2 hs2 hg2 => ?_)
  refine stop_raise (by rw [Around.in1_handled]; exact hh) fun h' e hk he => ?_
  refine hide_goal fun kHide => ?_
  obtain ⟨oe, a1, a2⟩ := he
  refine kHide ?_
  clear kHide
  exact ⟨⟨e, oe, rfl, a1, a2⟩, h h' fun b o hb q => hk b o ((hs2.2 b hb).trans ((hs1.2 b hb).trans q))⟩
end
end Mine
end

section
set_option maxRecDepth 100000
open PySem PySem.W PySem.Calls
namespace Mine

section
variable {prog : Program} {w : World} {A : Around} {E : Value → Shared → Prop} {s : Shared} {Z : List (Row (List Atom))} {ep fi mo : Nat} {led plain : Bool} {S I T : Addr}
theorem byText_is {b : Bool} (hb : w.params.followText "set-order" = b) {Q : Bool → Shared → Prop} (h : Q b s) : wpAny (model prog w) A setsByText Q E s := by
  unfold setsByText
  refine wpAny_bind (wpAny_askSetting (wpAny_pure ?_))
  show Q (w.params.followText "set-order") s
  rw [hb]; exact h
theorem walk_text (hb : w.params.followText "set-order" = true) (hn : Z.length ≤ 7) (ho : s.heap.get? S = some (setOb prog w Z ep fi led mo plain)) {Q : Array (Int × Value) → Shared → Prop}
    (h : Q (pickOrder (w.params.setOrder S ep) (elemsOf (litHash prog w) Z)) s) : wpAny (model prog w) A (setWalk S) Q E s := by
  unfold setWalk
  refine wpAny_bind (setState_is hn ho ?_)
  dsimp only
  refine wpAny_bind (byText_is hb ?_)
  simp only [if_true]
  exact wpAny_bind (wpAny_askSetting (wpAny_pure h))
theorem next_text_look (hb : w.params.followText "set-order" = true) (hn : Z.length ≤ 7) (ho : s.heap.get? S = some (setOb prog w Z ep fi led mo plain)) {slot i : Nat} {Q : Option (Value × Nat) → Shared → Prop}
    (h : Q ((pickOrder (w.params.setOrder S ep) (elemsOf (litHash prog w) Z))[i]?.map fun e => (e.2, slot)) s) : wpAny (model prog w) A (setNext S slot i ep) Q E s := by
  unfold setNext
  refine wpAny_bind (setState_is hn ho ?_)
  dsimp only
  refine wpAny_bind (byText_is hb ?_)
  simp only [if_true, bne_self_eq_false, Bool.false_eq_true, if_false]
  exact wpAny_bind (walk_text hb hn ho (wpAny_pure h))
theorem next_led_look (hb : w.params.followText "set-order" = false) (hn : Z.length ≤ 7) (ho : s.heap.get? S = some (setOb prog w Z ep fi true mo plain)) (hd : plain = true ∨ Z.length ≤ 1) {slot i : Nat} {Q : Option (Value × Nat) → Shared → Prop}
    (h : Q (match (elemsOf (litHash prog w) Z)[SetTable.below (placesOf Z) slot]?, (placesOf Z)[SetTable.below (placesOf Z) slot]? with | some (_, x), some j => some (x, j + 1) | _, _ => none) s) :
    wpAny (model prog w) A (setNext S slot i ep) Q E s := by
  unfold setNext
  refine wpAny_bind (setState_is hn ho ?_)
  dsimp only
  refine wpAny_bind (byText_is hb ?_)
  simp only [Bool.false_eq_true, if_false]
  split
  · rename_i hc
    have hc' : (!plain && decide ((elemsOf (litHash prog w) Z).size > 1)) = true := hc
    rw [size_elems] at hc'
    rcases hd with rfl | hd
    · simp at hc'
    · simp at hc'; omega
  · refine wpAny_bind ?_
    show wpAny (model prog w) A (if (!true && !(elemsOf (litHash prog w) Z).isEmpty) = true then unsupported "set:maker-not-led" else pure ()) _ E s
    simp only [Bool.not_true, Bool.false_and, Bool.false_eq_true, if_false]
    exact wpAny_pure (wpAny_pure h)

/-- by the text's order -/
theorem next_text {i : Nat} {v : Value} {Q : Option Value → Shared → Prop} (hb : w.params.followText "set-order" = true) (hn : Z.length ≤ 7) (hit : s.heap.get? I = some (sit (.int 0 0) i S Z.length ep)) (ho : s.heap.get? S = some (setOb prog w Z ep fi led mo plain))
    (hv : ((pickOrder (w.params.setOrder S ep) (elemsOf (litHash prog w) Z)).toList.map (·.2))[i]? = some v)
    (h : ∀ h', Heap.SameBut I s.heap h' → h'.get? I = some (sit (.int 0 0) (i + 1) S Z.length ep) → Q (some v) { s with heap := h' }) :
    wpAny (model prog w) A (pyNext (.ref I)) Q E s := by
  refine next_of hit (next_open hit hn ho ?_)
  dsimp only
  refine wpAny_bind (next_text_look hb hn ho ?_)
  obtain ⟨e, he, hev⟩ : ∃ e, (pickOrder (w.params.setOrder S ep) (elemsOf (litHash prog w) Z))[i]? = some e ∧ e.2 = v := by
    rw [List.getElem?_map, Option.map_eq_some_iff] at hv
    refine hide_goal fun kHide => ?_
    obtain ⟨e, q1, q2⟩ := hv
    refine kHide ?_
    clear kHide
    exact ⟨e, by rw [← Array.getElem?_toList]; exact q1, q2⟩
  rw [he]
  dsimp only [Option.map]
  refine wpAny_bind (setField_si (first := .none) (i := 0) hit rfl (by simp) fun h1 hs1 hg1 => ?_)
  refine wpAny_bind (setField_si (first := .none) (i := 0) (hg1 _ rfl) rfl (by simp [sit]) fun h2 hs2 hg2 => ?_)
  rw [hev]
  exact wpAny_pure ⟨_, rfl, h h2 (hs1.trans hs2) (hg2 _ rfl)⟩
theorem done_text {i : Nat} {Q : Option Value → Shared → Prop} (hh : A.handled = none) (hb : w.params.followText "set-order" = true) (hn : Z.length ≤ 7) (hit : s.heap.get? I = some (sit (.int 0 0) i S Z.length ep)) (ho : s.heap.get? S = some (setOb prog w Z ep fi led mo plain))
    (hv : ((pickOrder (w.params.setOrder S ep) (elemsOf (litHash prog w) Z)).toList.map (·.2))[i]? = none)
    (h : ∀ h', (∀ b o, b ≠ I → s.heap.get? b = some o → h'.get? b = some o) → Q none { s with heap := h' }) :
    wpAny (model prog w) A (pyNext (.ref I)) Q E s := by
  refine next_of hit (next_open hit hn ho ?_)
  dsimp only
  refine wpAny_bind (next_text_look hb hn ho ?_)
  have he : (pickOrder (w.params.setOrder S ep) (elemsOf (litHash prog w) Z))[i]? = none := by
    rw [List.getElem?_map, Option.map_eq_none_iff] at hv
    rw [← Array.getElem?_toList]; exact hv
  rw [he]
  dsimp only [Option.map]
  refine wpAny_bind (setField_si (first := .none) (i := 0) hit rfl (by simp) fun h1 hs1 hg1 => ?_)
  refine stop_raise (by rw [Around.in1_handled]; exact hh) fun h' e hk he => ?_
  refine hide_goal fun kHide => ?_
  obtain ⟨oe, a1, a2⟩ := he
  refine kHide ?_
  clear kHide
  exact ⟨⟨e, oe, rfl, a1, a2⟩, h h' fun b o hb q => hk b o ((hs1.2 b hb).trans q)⟩

noncomputable def slotAt' (Z : List (Row (List Atom))) : Nat → Nat
  | 0 => 0
  | i + 1 => match Z[i]? with | some z => z.1 + 1 | none => 0
theorem below_slot (hR : Rising Z) : ∀ i, i ≤ Z.length → SetTable.below (placesOf Z) (slotAt' Z i) = i := by
  intro i hi
  refine hide_goal fun kHide => ?_
  obtain ⟨b1, b2, b3⟩ := below_is (placesOf Z) (slotAt' Z i) hR.at
  refine kHide ?_
  clear kHide
  have hsz : (placesOf Z).size = Z.length := by simp [placesOf]
  have get : ∀ i (hi : i < Z.length), (placesOf Z)[i]'(by rw [hsz]; exact hi) = (Z[i]).1 := fun i hi => by simp [placesOf]
  cases i with
  | zero =>
    rcases Nat.eq_zero_or_pos (SetTable.below (placesOf Z) (slotAt' Z 0)) with q | q
    · exact q
    · have := b2 0 (by omega) q
      simp [slotAt'] at this
  | succ j =>
    have hj : j < Z.length := by omega
    have hs : slotAt' Z (j + 1) = (Z[j]).1 + 1 := by simp [slotAt', hj]
    rcases Nat.lt_trichotomy (SetTable.below (placesOf Z) (slotAt' Z (j + 1))) (j + 1) with q | q | q
    · have := b3 j (by omega) (by omega)
      rw [get j hj, hs] at this; omega
    · exact q
    · have := b2 (j + 1) (by omega) q
      rw [hs] at this
      have h2 := hR.at j (j + 1) (by omega) (by omega) (by omega)
      rw [get j hj] at h2
      omega
theorem next_led {i : Nat} {z : Row (List Atom)} {Q : Option Value → Shared → Prop} (hb : w.params.followText "set-order" = false) (hn : Z.length ≤ 7) (hR : Rising Z) (hd : plain = true ∨ Z.length ≤ 1) (hit : s.heap.get? I = some (sit (.int (slotAt' Z i) 0) i S Z.length ep)) (ho : s.heap.get? S = some (setOb prog w Z ep fi true mo plain))
    (hz : Z[i]? = some z)
    (h : ∀ h', Heap.SameBut I s.heap h' → h'.get? I = some (sit (.int (slotAt' Z (i + 1)) 0) (i + 1) S Z.length ep) → Q (some (.ref z.2.2)) { s with heap := h' }) :
    wpAny (model prog w) A (pyNext (.ref I)) Q E s := by
  refine next_of hit (next_open hit hn ho ?_)
  dsimp only
  refine wpAny_bind (next_led_look hb hn ho hd ?_)
  refine hide_goal fun kHide => ?_
  obtain ⟨hi, hze⟩ := List.getElem?_eq_some_iff.mp hz
  refine kHide ?_
  clear kHide
  rw [Int.toNat_natCast, below_slot hR i (by omega), elem_at hz]
  have hp : (placesOf Z)[i]? = some z.1 := by simp [placesOf, hz]
  rw [hp]
  dsimp only
  refine wpAny_bind (setField_si (first := .none) (i := 0) hit rfl (by simp) fun h1 hs1 hg1 => ?_)
  refine wpAny_bind (setField_si (first := .none) (i := 0) (hg1 _ rfl) rfl (by simp [sit]) fun h2 hs2 hg2 => ?_)
  refine wpAny_pure ⟨_, rfl, h h2 (hs1.trans hs2) ?_⟩
  rw [hg2 _ rfl]
  simp [slotAt', hz, sit, rawInt, Obj.mapFields]
theorem done_led {i : Nat} {Q : Option Value → Shared → Prop} (hh : A.handled = none) (hb : w.params.followText "set-order" = false) (hn : Z.length ≤ 7) (hR : Rising Z) (hd : plain = true ∨ Z.length ≤ 1) (hi : i = Z.length) (hit : s.heap.get? I = some (sit (.int (slotAt' Z i) 0) i S Z.length ep)) (ho : s.heap.get? S = some (setOb prog w Z ep fi true mo plain))
    (h : ∀ h', (∀ b o, b ≠ I → s.heap.get? b = some o → h'.get? b = some o) → Q none { s with heap := h' }) :
    wpAny (model prog w) A (pyNext (.ref I)) Q E s := by
  refine next_of hit (next_open hit hn ho ?_)
  dsimp only
  refine wpAny_bind (next_led_look hb hn ho hd ?_)
  rw [Int.toNat_natCast, below_slot hR i (by omega)]
  have he : (elemsOf (litHash prog w) Z)[i]? = none := by simp [elemsOf, hi]
  rw [he]
  dsimp only
  refine wpAny_bind (setField_si (first := .none) (i := 0) hit rfl (by simp) fun h1 hs1 hg1 => ?_)
  refine stop_raise (by rw [Around.in1_handled]; exact hh) fun h' e hk he => ?_
  refine hide_goal fun kHide => ?_
  obtain ⟨oe, a1, a2⟩ := he
  refine kHide ?_
  clear kHide
  exact ⟨⟨e, oe, rfl, a1, a2⟩, h h' fun b o hb q => hk b o ((hs1.2 b hb).trans q)⟩
end
end Mine
end

section
set_option maxRecDepth 100000
open PySem PySem.W PySem.Calls
namespace Mine
theorem entry_si_iter : entryFor table "set_iterator.__iter__" = some Builtin.«dict_keyiterator.__iter__» :=
  entryFor_alias (id' := "dict_keyiterator.__iter__") (by kernel_rfl) rfl (by decide +kernel) (by kernel_rfl)

structure SetIter (prog : Program) (w : World) (vs : List Value) (n : Nat) (I : Addr) (fp : List Addr) (St : Nat → Heap → Prop) : Prop where
  walks : ∀ A' : Around, A'.handled = none → Walks prog w A' I fp [I] n (fun i v => vs[i]? = some v) St
  typ : ∀ i h, St i h → ∃ o, h.get? I = some o ∧ o.cls = .type "set_iterator"

section
variable {prog : Program} {w : World} {A : Around} {E : Value → Shared → Prop} {s : Shared} {Z : List (Row (List Atom))} {ep fi mo : Nat} {led plain : Bool} {S I T : Addr}
theorem iter_self {first : Value} {i n : Nat} {Q : Value → Shared → Prop} (hit : s.heap.get? I = some (sit first i S n ep)) (h : Q (.ref I) s) : wpAny (model prog w) A (pyIter (.ref I)) Q E s := by
  have hT : s.TypeIs (.ref I) "set_iterator" := ⟨_, hit, rfl⟩
  refine wpAny_pyIter_slot hT slot_si_iter (wpAny_call_entry slot_si_iter hT entry_si_iter ?_ (args_si_iter _))
  show wpAny _ _ (ret (.ref I)) _ _ s
  exact wpAny_pure ⟨_, rfl, "set_iterator", _, hT, slot_si_next.lookup, h⟩

theorem walks_drawn {ord : List Nat} {oT : Obj} {nT : Nat} (hn : Z.length ≤ 7) (hTd : oT.data = .seq (ord.map fun (k : Nat) => rawInt k).toArray nT) (hp : List.Perm ord (List.range Z.length)) (hIS : I ≠ S) (hIT : I ≠ T) :
    SetIter prog w (ord.map fun j => (refsOf Z).getD j .none) Z.length I [I, S, T] (fun i h => h.get? I = some (sit (.ref T) i S Z.length ep) ∧ h.get? S = some (setOb prog w Z ep fi led mo plain) ∧ h.get? T = some oT) where
  typ := fun i h st => ⟨_, st.1, rfl⟩
  walks := fun A' hh => {
    sub := fun b hb => by simp at hb; simp [hb]
    frame := fun i h h' st hk => ⟨hk I (by simp) _ st.1, hk S (by simp) _ st.2.1, hk T (by simp) _ st.2.2⟩
    item := fun i s Q E hi st hQ => by
      have hlen : ord.length = Z.length := by rw [hp.length_eq, List.length_range]
      have hj : ord[i]? = some (ord[i]'(by omega)) := List.getElem?_eq_getElem _
      have hjz : ord[i]'(by omega) < Z.length := List.mem_range.mp (hp.mem_iff.mp (List.getElem_mem _))
      have hz : Z[ord[i]'(by omega)]? = some (Z[ord[i]'(by omega)]) := List.getElem?_eq_getElem _
      refine next_drawn hn st.1 st.2.1 st.2.2 hTd hj hz fun h' hs hg => ?_
      have := hQ (.ref (Z[ord[i]'(by omega)]).2.2) h' s.toks (by simp [hj, refsOf, hjz]) ⟨hg, (hs.2 S (Ne.symm hIS)).trans st.2.1, (hs.2 T (Ne.symm hIT)).trans st.2.2⟩ fun b o hb e => (hs.2 b (fun q => hb (by simp [q]))).trans e
      exact this
    done := fun s Q E st hQ => by
      have hlen : ord.length = Z.length := by rw [hp.length_eq, List.length_range]
      refine done_drawn hh hn st.1 st.2.1 st.2.2 hTd (List.getElem?_eq_none (by omega)) fun h' hk => ?_
      exact hQ h' s.toks fun b o hb e => hk b o (fun q => hb (by simp [q])) e
    self := fun i s Q E st hQ => iter_self st.1 hQ }
theorem drawn_perm {ord : List Nat} (hp : List.Perm ord (List.range Z.length)) : List.Perm (ord.map fun j => (refsOf Z).getD j .none) (refsOf Z) := by
  have h1 := hp.map fun j => (refsOf Z).getD j Value.none
  refine h1.trans (List.Perm.of_eq ?_)
  apply List.ext_getElem
  · simp [refsOf]
  · intro i h1 h2
    simp only [List.length_map, List.length_range] at h1
    simp [refsOf, h1]

theorem walks_text (hb : w.params.followText "set-order" = true) (hn : Z.length ≤ 7) (hIS : I ≠ S) :
    SetIter prog w ((pickOrder (w.params.setOrder S ep) (elemsOf (litHash prog w) Z)).toList.map (·.2)) Z.length I [I, S] (fun i h => h.get? I = some (sit (.int 0 0) i S Z.length ep) ∧ h.get? S = some (setOb prog w Z ep fi led mo plain)) where
  typ := fun i h st => ⟨_, st.1, rfl⟩
  walks := fun A' hh => {
    sub := fun b hb => by simp at hb; simp [hb]
    frame := fun i h h' st hk => ⟨hk I (by simp) _ st.1, hk S (by simp) _ st.2⟩
    item := fun i s Q E hi st hQ => by
      have hl : ((pickOrder (w.params.setOrder S ep) (elemsOf (litHash prog w) Z)).toList.map (·.2)).length = Z.length := by
        rw [List.length_map, (pick_perm _ _).length_eq]; simp [elemsOf]
      have hv : ((pickOrder (w.params.setOrder S ep) (elemsOf (litHash prog w) Z)).toList.map (·.2))[i]? = some (((pickOrder (w.params.setOrder S ep) (elemsOf (litHash prog w) Z)).toList.map (·.2))[i]'(by omega)) := List.getElem?_eq_getElem _
      refine next_text hb hn st.1 st.2 hv fun h' hs hg => ?_
      exact hQ _ h' s.toks hv ⟨hg, (hs.2 S (Ne.symm hIS)).trans st.2⟩ fun b o hb e => (hs.2 b (fun q => hb (by simp [q]))).trans e
    done := fun s Q E st hQ => by
      have hl : ((pickOrder (w.params.setOrder S ep) (elemsOf (litHash prog w) Z)).toList.map (·.2)).length = Z.length := by
        rw [List.length_map, (pick_perm _ _).length_eq]; simp [elemsOf]
      refine done_text hh hb hn st.1 st.2 (List.getElem?_eq_none (by omega)) fun h' hk => ?_
      exact hQ h' s.toks fun b o hb e => hk b o (fun q => hb (by simp [q])) e
    self := fun i s Q E st hQ => iter_self st.1 hQ }
theorem text_perm (next : Nat → Nat) : List.Perm ((pickOrder next (elemsOf (litHash prog w) Z)).toList.map (·.2)) (refsOf Z) := by
  refine ((pick_perm _ _).map _).trans (List.Perm.of_eq ?_)
  simp [elemsOf, refsOf]

theorem walks_led (hb : w.params.followText "set-order" = false) (hn : Z.length ≤ 7) (hR : Rising Z) (hd : plain = true ∨ Z.length ≤ 1) (hIS : I ≠ S) :
    SetIter prog w (refsOf Z) Z.length I [I, S] (fun i h => h.get? I = some (sit (.int (slotAt' Z i) 0) i S Z.length ep) ∧ h.get? S = some (setOb prog w Z ep fi true mo plain)) where
  typ := fun i h st => ⟨_, st.1, rfl⟩
  walks := fun A' hh => {
    sub := fun b hb => by simp at hb; simp [hb]
    frame := fun i h h' st hk => ⟨hk I (by simp) _ st.1, hk S (by simp) _ st.2⟩
    item := fun i s Q E hi st hQ => by
      have hz : Z[i]? = some (Z[i]) := List.getElem?_eq_getElem _
      refine next_led hb hn hR hd st.1 st.2 hz fun h' hs hg => ?_
      exact hQ _ h' s.toks (by simp [refsOf, hz]) ⟨hg, (hs.2 S (Ne.symm hIS)).trans st.2⟩ fun b o hb e => (hs.2 b (fun q => hb (by simp [q]))).trans e
    done := fun s Q E st hQ => by
      refine done_led hh hb hn hR hd rfl st.1 st.2 fun h' hk => ?_
      exact hQ h' s.toks fun b o hb e => hk b o (fun q => hb (by simp [q])) e
    self := fun i s Q E st hQ => iter_self st.1 hQ }

theorem iter_set {Q : Value → Shared → Prop} (hn : Z.length ≤ 7) (hR : Rising Z) (hl : led = !w.params.followText "set-order") (ho : s.heap.get? S = some (setOb prog w Z ep fi led mo plain))
    (h : ∀ I fp St h' d vs, SetIter prog w vs Z.length I fp St → St 0 h' → List.Perm vs (refsOf Z) → I ∈ fp → (∀ b ∈ fp, b < h'.objs.size) → (∀ b o, s.heap.get? b = some o → h'.get? b = some o) → (∀ b ∈ fp, b = S ∨ s.heap.objs.size ≤ b) → Q (.ref I) { s with heap := h', drawn := d }) :
    wpAny (model prog w) A (pyIter (.ref S)) Q E s := by
  have hT : s.TypeIs (.ref S) "set" := ⟨_, ho, rfl⟩
  have hSlt : S < s.heap.objs.size := Heap.lt_size ho
  refine wpAny_pyIter_slot hT F.slot_set_iter (wpAny_call_entry F.slot_set_iter hT entry_set_iter ?_ (F.args_set_iter_1 _))
  unfold Builtin.«frozenset.__iter__»
  show wpAny _ _ (Builtin.Frozenset.sizeOf S >>= _) _ _ s
  unfold Builtin.Frozenset.sizeOf
  refine wpAny_bind (wpAny_bind (entries_is hn ho (wpAny_pure ?_)))
  rw [size_elems]
  refine wpAny_bind ?_
  unfold setDrawn
  refine wpAny_bind (setState_is hn ho ?_)
  dsimp only
  cases hb : w.params.followText "set-order" with
  | true =>
    refine wpAny_bind (byText_is hb ?_)
    refine wpAny_pure ?_
    simp only [Bool.not_true, Bool.false_and, Bool.false_eq_true, if_false]
    refine wpAny_bind (wpAny_pure ?_)
    unfold setEpoch
    refine wpAny_bind (wpAny_bind (setState_is hn ho (wpAny_pure ?_)))
    refine wpAny_bind (wpAny_newObj_type (wpAny_pure ⟨_, rfl, "set_iterator", _, ⟨_, Heap.get?_push_size _ rfl, rfl⟩, slot_si_next.lookup, ?_⟩))
    refine h _ _ _ _ s.drawn _ (walks_text (ep := ep) (fi := fi) (led := led) (mo := mo) (plain := plain) hb hn (Nat.ne_of_gt hSlt)) ⟨Heap.get?_push_size _ rfl, Heap.get?_push_of_some _ ho⟩ (text_perm _) (by simp) (fun b hb => ?_) (fun b o e => Heap.get?_push_of_some _ e) (fun b hb => by simp at hb; rcases hb with rfl | rfl; exact .inr (Nat.le_refl _); exact .inl rfl)
    rw [Heap.size_push]
    rcases List.mem_cons.mp hb with rfl | hb
    · exact Nat.lt_succ_self _
    · rw [List.mem_singleton.mp hb]; exact Nat.lt_succ_of_lt hSlt
  | false =>
    refine wpAny_bind (byText_is hb ?_)
    refine wpAny_pure ?_
    have hled : led = true := by rw [hl, hb]; rfl
    subst hled
    simp only [Bool.not_false, Bool.true_and]
    split
    · rename_i hc
      refine wpAny_bind (draw_order _ _ s List.length_range.symm fun ord d hp => wpAny_bind ?_)
      refine wpAny_newObj_type ?_ (by show (List.toArray _).size ≤ _; rw [List.size_toArray, List.length_map, hp.length_eq, List.length_range, sizeLine_eq]; omega)
      unfold setEpoch
      have ho' : (s.heap.push { cls := .type "tuple", data := .seq (ord.map fun (k : Nat) => rawInt k).toArray }).get? S = some (setOb prog w Z ep fi true mo plain) := Heap.get?_push_of_some _ ho
      refine wpAny_bind (wpAny_bind (setState_is (s := { s with heap := _, drawn := d }) hn ho' (wpAny_pure ?_)))
      refine wpAny_bind (wpAny_newObj_type (wpAny_pure ⟨_, rfl, "set_iterator", _, ⟨_, Heap.get?_push_size _ rfl, rfl⟩, slot_si_next.lookup, ?_⟩))
      have hsz : (s.heap.push { cls := .type "tuple", data := .seq (ord.map fun (k : Nat) => rawInt k).toArray }).objs.size = s.heap.objs.size + 1 := Heap.size_push _ _
      refine h _ _ _ _ d _ (walks_drawn (T := s.heap.objs.size) (oT := { cls := .type "tuple", data := .seq (ord.map fun (k : Nat) => rawInt k).toArray }) (nT := 0) (ep := ep) (fi := fi) (led := true) (mo := mo) (plain := plain) hn rfl hp ?_ ?_) ⟨Heap.get?_push_size _ rfl, Heap.get?_push_of_some _ ho', Heap.get?_push_of_some _ (Heap.get?_push_size _ rfl)⟩ (drawn_perm hp) (by simp) (fun b hb => ?_) (fun b o e => Heap.get?_push_of_some _ (Heap.get?_push_of_some _ e)) (fun b hb => ?_)
      · show (s.heap.push { cls := .type "tuple", data := .seq (ord.map fun (k : Nat) => rawInt k).toArray }).objs.size ≠ S
        rw [hsz]; exact Nat.ne_of_gt (Nat.lt_succ_of_lt hSlt)
      · show (s.heap.push { cls := .type "tuple", data := .seq (ord.map fun (k : Nat) => rawInt k).toArray }).objs.size ≠ s.heap.objs.size
        rw [hsz]; exact Nat.ne_of_gt (Nat.lt_succ_self _)
      · rw [Heap.size_push]
        show b < (s.heap.push { cls := .type "tuple", data := .seq (ord.map fun (k : Nat) => rawInt k).toArray }).objs.size + 1
        have hb2 : b = (s.heap.push { cls := .type "tuple", data := .seq (ord.map fun (k : Nat) => rawInt k).toArray }).objs.size ∨ b = S ∨ b = s.heap.objs.size := by
          rcases List.mem_cons.mp hb with q | hb
          · exact .inl q
          · rcases List.mem_cons.mp hb with q | hb
            · exact .inr (.inl q)
            · exact .inr (.inr (List.mem_singleton.mp hb))
        rw [hsz] at hb2 ⊢
        rcases hb2 with rfl | rfl | rfl
        · exact Nat.lt_succ_self _
        · exact Nat.lt_succ_of_lt (Nat.lt_succ_of_lt hSlt)
        · exact Nat.lt_succ_of_lt (Nat.lt_succ_self _)
      · have hb2 : b = (s.heap.push { cls := .type "tuple", data := .seq (ord.map fun (k : Nat) => rawInt k).toArray }).objs.size ∨ b = S ∨ b = s.heap.objs.size := by
          rcases List.mem_cons.mp hb with q | hb
          · exact .inl q
          · rcases List.mem_cons.mp hb with q | hb
            · exact .inr (.inl q)
            · exact .inr (.inr (List.mem_singleton.mp hb))
        rw [hsz] at hb2
        rcases hb2 with rfl | rfl | rfl
        · exact .inr (Nat.le_succ _)
        · exact .inl rfl
        · exact .inr (Nat.le_refl _)
    · rename_i hc
      have hd : ¬ (!plain && decide ((elemsOf (litHash prog w) Z).size > 1)) = true := hc
      rw [size_elems] at hd
      refine wpAny_bind (wpAny_pure ?_)
      unfold setEpoch
      refine wpAny_bind (wpAny_bind (setState_is hn ho (wpAny_pure ?_)))
      refine wpAny_bind (wpAny_newObj_type (wpAny_pure ⟨_, rfl, "set_iterator", _, ⟨_, Heap.get?_push_size _ rfl, rfl⟩, slot_si_next.lookup, ?_⟩))
      refine h _ _ _ _ s.drawn _ (walks_led (ep := ep) (fi := fi) (mo := mo) (plain := plain) hb hn hR (by cases plain <;> simp at hd ⊢; omega) (Nat.ne_of_gt hSlt)) ⟨Heap.get?_push_size _ rfl, Heap.get?_push_of_some _ ho⟩ (List.Perm.refl _) (by simp) (fun b hb => ?_) (fun b o e => Heap.get?_push_of_some _ e) (fun b hb => by simp at hb; rcases hb with rfl | rfl; exact .inr (Nat.le_refl _); exact .inl rfl)
      rw [Heap.size_push]
      rcases List.mem_cons.mp hb with rfl | hb
      · exact Nat.lt_succ_self _
      · rw [List.mem_singleton.mp hb]; exact Nat.lt_succ_of_lt hSlt
end
end Mine
end

section
set_option maxRecDepth 100000
open PySem PySem.W PySem.Calls
namespace Mine
section
variable {prog : Program} {w : World} {A : Around} {E : Value → Shared → Prop} {s : Shared} {Z : List (Row (List Atom))} {ep fi mo : Nat} {led plain : Bool} {S I T : Addr}
theorem hint_none {Q : Bool → Shared → Prop} (hT : s.TypeIs (.ref S) "set") (h : Q false s) : wpAny (model prog w) A (Builtin.List.listLengthHint (.ref S)) Q E s := by
  unfold Builtin.List.listLengthHint
  refine wpAny_bind (wpAny_specialOf hT F.slot_set_len.lookup ?_)
  generalize hid : ("set.__len__" : String) = id0
  (fail_if_success (clear hid id0))
  wp_delta
  rw [show splitId id0 = some ("set", "__len__") from by subst hid; decide +kernel]
  subst hid
  refine wpAny_bind (wpAny_isInstance (b := true) hT (by rw [isSubtype_type]; kernel_rfl) ?_)
  rw [if_neg (show ¬ ((!true) = true) by decide)]
  split
  · refine wpAny_bind (wpAny_typeOf hT ?_)
    exact wpAny_pure h
  · rename_i hc
    exact absurd (by decide +kernel) hc

theorem collect_set {Q : List Value → Shared → Prop} (hh : A.handled = none) (hn : Z.length ≤ 7) (hR : Rising Z) (hl : led = !w.params.followText "set-order") (ho : s.heap.get? S = some (setOb prog w Z ep fi led mo plain))
    (h : ∀ h' tk d vs, List.Perm vs (refsOf Z) → (∀ b o, s.heap.get? b = some o → h'.get? b = some o) → Q vs { s with heap := h', toks := tk, drawn := d }) :
    wpAny (model prog w) A (collect (.ref S)) Q E s := by
  have hSlt : S < s.heap.objs.size := Heap.lt_size ho
  unfold collect
  refine wpAny_bind (wpAny_runValue (codeAny_builtin F.entry_proto_collect ?_))
  rw [Around.under_plainId F.plain_proto_collect _]
  show wpAny _ A.in1 (newList [] >>= fun l => again (.builtin "list.__iadd__" ⟨[l, .ref S], []⟩)) _ _ s
  refine wpAny_bind (wpAny_newObj_type ?_)
  refine wpAny_pure ⟨plainId_quiet F.plain_list_iadd _, codeAny_builtin F.entry_list_iadd ?_⟩
  rw [Around.under_plainId F.plain_list_iadd _]
  show wpAny _ A.in1 (Builtin.List.listExtendWith (.ref s.heap.objs.size) (.ref S) (.ref s.heap.objs.size)) _ _ { s with heap := s.heap.push { cls := .type "list", data := .seq ([] : List Value).toArray } }
  have ho₁ : (s.heap.push { cls := .type "list", data := .seq ([] : List Value).toArray }).get? S = some (setOb prog w Z ep fi led mo plain) := Heap.get?_push_of_some _ ho
  have hD₁ : (s.heap.push { cls := .type "list", data := .seq ([] : List Value).toArray }).get? s.heap.objs.size = some { cls := .type "list", data := .seq ([] : List Value).toArray } := Heap.get?_push_size _ rfl
  have hsz : (s.heap.push { cls := .type "list", data := .seq ([] : List Value).toArray }).objs.size = s.heap.objs.size + 1 := Heap.size_push _ _
  have up : ∀ b o, s.heap.get? b = some o → (s.heap.push { cls := .type "list", data := .seq ([] : List Value).toArray }).get? b = some o := fun b o e => Heap.get?_push_of_some _ e
  generalize (s.heap.push { cls := .type "list", data := .seq ([] : List Value).toArray }) = H at ho₁ hD₁ hsz up ⊢
  have hSI : s.heap.objs.size ≠ S := Nat.ne_of_gt hSlt
  unfold Builtin.List.listExtendWith
  refine wpAny_bind (wpAny_typeOf (T := "set") ⟨_, ho₁, rfl⟩ ?_)
  have h1 : Builtin.List.listSameRef (.ref s.heap.objs.size) (.ref S) = false := by simp [Builtin.List.listSameRef, hSI]
  have h2 : (Value.type "set" == Value.type "list") = false := by decide
  have h3 : (Value.type "set" == Value.type "tuple") = false := by decide
  simp only [h1, h2, h3, Bool.or_false, Bool.false_eq_true, if_false]
  refine wpAny_bind (iter_set (s := { s with heap := H }) hn hR hl ho₁ fun I fp St h' d vs hI hst hp hIf hfp hk hIs => ?_)
  have hDf : s.heap.objs.size ∉ fp := by
    intro q
    rcases hIs _ q with q | q
    · exact hSI q
    · rw [hsz] at q; exact Nat.lt_irrefl _ q
  refine wpAny_bind (wpAny_holding (hint_none ?_ ?_))
  · exact ⟨_, hk _ _ ho₁, rfl⟩
  have hD' : h'.get? s.heap.objs.size = some { cls := .type "list", data := .seq ([] : List Value).toArray } := hk _ _ hD₁
  have hlen : vs.length = Z.length := by rw [hp.length_eq]; simp [refsOf]
  split
  · refine wpAny_bind (wpAny_rule ?_)
    refine wpAny_bind ?_
    show wpAny _ A.in1 (updateSeq s.heap.objs.size (·.push .none) >>= fun _ => updateSeq s.heap.objs.size (·.pop)) _ _ _
    refine wpAny_bind (wpAny_updateSeq hD' rfl ?_)
    have hS₂ := Heap.get?_update_self (Obj.mapSeq (·.push Value.none)) hD' rfl
    refine wpAny_updateSeq (hz := by seq_fits) hS₂ rfl ?_
    have hS₃ := Heap.get?_update_self (Obj.mapSeq (·.pop)) hS₂ rfl
    have oth : ∀ b o, b ≠ s.heap.objs.size → h'.get? b = some o → ((h'.update s.heap.objs.size (Obj.mapSeq (·.push Value.none))).update s.heap.objs.size (Obj.mapSeq (·.pop))).get? b = some o :=
      fun b o hb e => (Heap.get?_update_other _ _ (Ne.symm hb)).trans ((Heap.get?_update_other _ _ (Ne.symm hb)).trans e)
    refine wpAny_pure ⟨plainId_quiet F.plain_extend_loop _, codeAny_extend_loopS (hI.walks A.in1 (by rw [Around.in1_handled]; exact hh)).toS (by rw [sizeLine_eq]; omega) _ hDf _ Z.length 0 _ _ _ rfl (Nat.zero_le _)
      ((hI.walks A.in1 (by rw [Around.in1_handled]; exact hh)).frame 0 h' _ hst fun b hb o e => oth b o (fun q => hDf (q ▸ hb)) e) hS₃ (ItemsOf.nil _) fun s' acc' c' hm hS' hacc => ?_⟩
    show wpAny _ A (load s.heap.objs.size >>= _) _ _ s'
    refine wpAny_bind (wpAny_load hS' ?_)
    have hvs : acc'.toList = vs := by
      apply List.ext_getElem?
      intro i
      by_cases hi : i < acc'.size
      · have e := hacc.2 i acc'[i] (Array.getElem?_eq_getElem hi)
        rw [e]
        simp [hi]
      · rw [List.getElem?_eq_none (by simpa using Nat.not_lt.mp hi), List.getElem?_eq_none (by rw [hlen]; have := hacc.1; omega)]
    show wpAny _ A (pure acc'.toList) _ _ s'
    rw [hvs]
    refine hide_goal fun kHide => ?_
    obtain ⟨h₂, g₂, d₂, t₂, o₂⟩ := s'
    obtain ⟨m1, m2, m3, m4, _⟩ := hm
    refine kHide ?_
    clear kHide
    have n2 : g₂ = s.gens := m2
    have n3 : d₂ = d := m3
    have n4 : o₂ = s.os := m4
    clear m2 m3 m4
    subst n2
    subst n3
    subst n4
    refine wpAny_pure (h h₂ t₂ d₂ vs hp fun b o e => ?_)
    have hb : b < s.heap.objs.size := Heap.lt_size e
    refine m1 b o ?_ (oth b o (Nat.ne_of_lt hb) (hk b o (up b o e)))
    intro q
    rcases List.mem_cons.mp q with q | q
    · exact Nat.ne_of_lt hb q
    · have q : b = I := List.mem_singleton.mp q
      subst q
      rcases hIs b hIf with q | q
      · subst q
        refine hide_goal fun kHide => ?_
        obtain ⟨o1, q1, q2⟩ := hI.typ 0 h' hst
        refine kHide ?_
        clear kHide
        have q3 := hk b _ ho₁
        rw [q1] at q3
        cases q3
        injection q2 with q2
        exact absurd q2 (by decide)
      · have q : H.objs.size ≤ b := q
        rw [hsz] at q
        exact Nat.lt_irrefl _ (Nat.lt_of_lt_of_le (Nat.lt_succ_of_lt hb) q)
  · rename_i hc
    exact absurd (by decide +kernel) hc
end
end Mine
end

section
set_option maxRecDepth 100000
open PySem PySem.W PySem.Calls
namespace Mine

/-! ### the order of literals -/
noncomputable def litLt (a b : Lit) : Bool := if a.1 = b.1 then (if a.2.1 = b.2.1 then decide (a.2.2 < b.2.2) else decide (a.2.1.cps.toList < b.2.1.cps.toList)) else decide (a.1 < b.1)
theorem str_ext {a b : Str} (h : a.cps.toList = b.cps.toList) : a = b := by
  cases a; cases b
  simp only [Str.mk.injEq]
  exact Array.toList_inj.mp h
theorem litLt_flip {a b : Lit} (h : a ≠ b) : litLt b a = !litLt a b := by
  obtain ⟨x, s, k⟩ := a; obtain ⟨x', s', k'⟩ := b
  unfold litLt
  dsimp only
  by_cases hx : x = x'
  · subst hx
    simp only [if_true]
    by_cases hs : s = s'
    · subst hs
      have hk : k ≠ k' := fun e => h (by rw [e])
      simp only [if_true]
      by_cases q : k < k'
      · simp [q]; omega
      · simp [q]; omega
    · have hs' : ¬ s' = s := fun e => hs e.symm
      simp only [hs, hs', if_false]
      by_cases q : s.cps.toList < s'.cps.toList
      · have : ¬ s'.cps.toList < s.cps.toList := fun q' => List.lt_irrefl _ (List.lt_trans q q')
        simp [q, this]
      · have : s'.cps.toList < s.cps.toList := by
          apply Classical.byContradiction
          intro q'
          exact hs (str_ext (List.le_antisymm (List.not_lt.mp q') (List.not_lt.mp q)))
        simp [q, this]
  · have hx' : ¬ x' = x := fun e => hx e.symm
    simp only [hx, hx', if_false]
    by_cases q : x < x'
    · simp [q]; omega
    · simp [q]; omega
theorem litLt_trans {a b c : Lit} (h1 : litLt a b = true) (h2 : litLt b c = true) : litLt a c = true := by
  obtain ⟨x, s, k⟩ := a; obtain ⟨x', s', k'⟩ := b; obtain ⟨x'', s'', k''⟩ := c
  unfold litLt at *
  dsimp only at *
  by_cases hx : x = x'
  · subst hx
    simp only [if_true] at h1
    by_cases hx2 : x = x''
    · subst hx2
      simp only [if_true] at h2 ⊢
      by_cases hs : s = s'
      · subst hs
        simp only [if_true, decide_eq_true_eq] at h1
        by_cases hs2 : s = s''
        · subst hs2
          simp only [if_true, decide_eq_true_eq] at h2 ⊢
          omega
        · simp only [hs2, if_false] at h2 ⊢
          exact h2
      · simp only [hs, if_false, decide_eq_true_eq] at h1
        by_cases hs2 : s' = s''
        · subst hs2
          simp only [hs, if_false, decide_eq_true_eq]
          exact h1
        · simp only [hs2, if_false, decide_eq_true_eq] at h2
          have h3 := List.lt_trans h1 h2
          have hne : ¬ s = s'' := fun e => by subst e; exact List.lt_irrefl _ h3
          simp only [hne, if_false, decide_eq_true_eq]
          exact h3
    · simp only [hx2, if_false] at h2 ⊢
      exact h2
  · simp only [hx, if_false, decide_eq_true_eq] at h1
    by_cases hx2 : x' = x''
    · subst hx2
      simp only [hx, if_false, decide_eq_true_eq]
      exact h1
    · simp only [hx2, if_false, decide_eq_true_eq] at h2
      have : ¬ x = x'' := by omega
      simp only [this, if_false, decide_eq_true_eq]
      omega

/-! ### the sort of two or three, as its questions go -/
noncomputable def kRun {α : Type} (lt : Nat → Nat → Bool) : KasT α → α
  | .ret a => a
  | .ask i j k => kRun lt (k (lt i j))
noncomputable def asksIn {α : Type} (n : Nat) : KasT α → Bool
  | .ret _ => true
  | .ask i j k => decide (i < n) && decide (j < n) && decide (i ≠ j) && asksIn n (k true) && asksIn n (k false)
noncomputable def lt3 (a b c : Bool) (i j : Nat) : Bool := match i, j with
  | 0, 1 => a | 1, 0 => !a | 0, 2 => b | 2, 0 => !b | 1, 2 => c | 2, 1 => !c | _, _ => false
theorem asks2 : asksIn 2 (kas_sort 2) = true := by decide +kernel
theorem asks3 : asksIn 3 (kas_sort 3) = true := by decide +kernel
theorem run2 : ∀ a : Bool, (kRun (lt3 a false false) (kas_sort 2)).toList = if a then [0, 1] else [1, 0] := by decide +kernel
theorem run3 : ∀ a b c : Bool, ¬ (a = true ∧ c = true ∧ b = false) → ¬ (a = false ∧ c = false ∧ b = true) →
    ∃ p q r, p < 3 ∧ q < 3 ∧ r < 3 ∧ (kRun (lt3 a b c) (kas_sort 3)).toList = [p, q, r] ∧ List.Perm [p, q, r] [0, 1, 2] ∧ lt3 a b c p q = true ∧ lt3 a b c q r = true := by
  intro a b c h1 h2
  match a, b, c with
  | true, true, true => exact ⟨0, 1, 2, by decide, by decide, by decide, by decide +kernel, by decide, rfl, rfl⟩
  | true, true, false => exact ⟨0, 2, 1, by decide, by decide, by decide, by decide +kernel, by decide, rfl, rfl⟩
  | true, false, false => exact ⟨2, 0, 1, by decide, by decide, by decide, by decide +kernel, by decide, rfl, rfl⟩
  | false, true, true => exact ⟨1, 0, 2, by decide, by decide, by decide, by decide +kernel, by decide, rfl, rfl⟩
  | false, false, true => exact ⟨1, 2, 0, by decide, by decide, by decide, by decide +kernel, by decide, rfl, rfl⟩
  | false, false, false => exact ⟨2, 1, 0, by decide, by decide, by decide, by decide +kernel, by decide, rfl, rfl⟩
  | true, false, true => exact absurd ⟨rfl, rfl, rfl⟩ h1
  | false, true, false => exact absurd ⟨rfl, rfl, rfl⟩ h2
end Mine
end

section
set_option maxRecDepth 100000
open PySem PySem.W PySem.Calls PyProof.Rows
namespace Mine

noncomputable def LitIn (news : List (Addr × Obj)) (l : Lit) (a : Addr) : Prop := ∃ n t1 t2 t3, (a, ({ cls := .type "tuple", data := .seq #[.int l.1 t1, .str l.2.1 t2, .int l.2.2 t3] n } : Obj)) ∈ news
theorem LitIn.mono {news news' : List (Addr × Obj)} {l : Lit} {a : Addr} (h : LitIn news l a) (hs : ∀ p ∈ news, p ∈ news') : LitIn news' l a := let ⟨n, t1, t2, t3, q⟩ := h; ⟨n, t1, t2, t3, hs _ q⟩
section
variable {prog : Program} {w : World} {A : Around} {E : Value → Shared → Prop} {s : Shared} {h₀ h : Heap} {L a : Addr} {m : Str → Option Value} {news : List (Addr × Obj)} {l l' : Lit} {x y : Addr}
theorem LitIn.key (hl : LitIn news l x) (N : News h₀ L h news) : IsTupleKey (atomKind prog w) h (litK l) x := by
  refine hide_goal fun kHide => ?_
  obtain ⟨n, t1, t2, t3, hm⟩ := hl
  refine kHide ?_
  clear kHide
  refine ⟨_, _, n, (N _ hm).1, rfl, rfl, ?_⟩
  refine .cons ?_ (.cons ?_ (.cons ?_ .nil))
  · simp [atomKind, atomIs, Value.isInt]
  · simp [atomKind, atomIs, Value.isStrOf]
  · simp [atomKind, atomIs, Value.isInt]

noncomputable def LitObj (h : Heap) (l : Lit) (a : Addr) : Prop := ∃ n t1 t2 t3, h.get? a = some ({ cls := .type "tuple", data := .seq #[.int l.1 t1, .str l.2.1 t2, .int l.2.2 t3] n } : Obj)
theorem LitIn.obj (hl : LitIn news l x) (N : News h₀ L h news) : LitObj h l x := let ⟨n, t1, t2, t3, q⟩ := hl; ⟨n, t1, t2, t3, (N _ q).1⟩

theorem lit_lt {Q : Bool → Shared → Prop} (hx : LitObj s.heap l x) (hy : LitObj s.heap l' y) (hq : Q (litLt l l') s) : wpAny (model prog w) A (keyLt' (tuples' true) (.ref x) (.ref y)) Q E s := by
  refine hide_goal fun kHide => ?_
  obtain ⟨n, t1, t2, t3, hx⟩ := hx
  obtain ⟨n', u1, u2, u3, hy⟩ := hy
  refine kHide ?_
  clear kHide
  refine kat_lt hx rfl hy rfl ?_
  show KatLex _ _ _ _ _ _ [(Value.int l.1 t1, Value.int l'.1 u1), (Value.str l.2.1 t2, Value.str l'.2.1 u2), (Value.int l.2.2 t3, Value.int l'.2.2 u3)] 0 s
  unfold litLt at hq
  refine kat_cons (wpAny_eqBool_int ?_)
  by_cases h1 : l.1 = l'.1
  · rw [if_pos h1] at hq
    rw [show (l.1 == l'.1) = true by simpa using h1]
    refine kat_yes (kat_cons (PySem.wpAny_eqBool_str ?_))
    by_cases h2 : l.2.1 = l'.2.1
    · rw [if_pos h2] at hq
      rw [decide_eq_true h2]
      refine kat_yes (kat_cons (wpAny_eqBool_int ?_))
      by_cases h3 : l.2.2 = l'.2.2
      · rw [show (l.2.2 == l'.2.2) = true by simpa using h3]
        refine kat_yes (kat_nil ?_)
        rw [h3] at hq
        simpa using hq
      · rw [show (l.2.2 == l'.2.2) = false by simpa using h3]
        exact kat_no (kat_one _ _ (lt_int hq))
    · rw [if_neg h2] at hq
      rw [decide_eq_false h2]
      exact kat_no (kat_one _ _ (PyProof.Rows.lt_str hq))
  · rw [if_neg h1] at hq
    rw [show (l.1 == l'.1) = false by simpa using h1]
    exact kat_no (oneLt_int hq)

noncomputable def refs (qs : List (Lit × Addr)) : List Value := qs.map fun q => .ref q.2
theorem refs_get {qs : List (Lit × Addr)} {i : Nat} {q : Lit × Addr} (h : qs[i]? = some q) : (refs qs).getD i .none = .ref q.2 := by simp [refs, h]
theorem tups_of {h : Heap} : ∀ (qs : List (Lit × Addr)), (∀ q ∈ qs, LitObj h q.1 q.2) → ∃ fs, KatTups h (refs qs) fs ∧ fs.length = qs.length ∧ ∀ v ∈ fs, ∃ i t, v = .int i t
  | [], _ => ⟨[], KatTups.nil, rfl, fun _ h => by cases h⟩
  | q :: qs, hq => by
    refine hide_goal fun kHide => ?_
    obtain ⟨fs, h1, h2, h3⟩ := tups_of qs fun p hp => hq p (List.mem_cons_of_mem _ hp)
    obtain ⟨n, t1, t2, t3, ho⟩ := hq q List.mem_cons_self
    refine kHide ?_
    clear kHide
    refine ⟨.int q.1.1 t1 :: fs, KatTups.cons ho rfl rfl rfl h1, by simp [h2], fun v hv => ?_⟩
    rcases List.mem_cons.mp hv with rfl | hv
    · exact ⟨_, _, rfl⟩
    · exact h3 v hv

theorem run_ask {qs : List (Lit × Addr)} {Q : Array Nat → Shared → Prop} (hq : ∀ q ∈ qs, LitObj s.heap q.1 q.2) (lt : Nat → Nat → Bool) (n : Nat) (hn : n = qs.length) (hlt : ∀ i j q q', qs[i]? = some q → qs[j]? = some q' → lt i j = litLt q.1 q'.1 ∨ i = j) :
    ∀ t : KasT (Array Nat), asksIn n t = true → Q (kRun lt t) s → t.kasWp (kas_ask prog w A (tuples' true) (refs qs)) Q s := by
  intro t
  induction t with
  | ret a => intro _ h; exact h
  | ask i j k ih =>
    intro ha h
    simp only [asksIn, Bool.and_eq_true, decide_eq_true_eq] at ha
    have hi : i < qs.length := by omega
    have hj : j < qs.length := by omega
    have ei : qs[i]? = some qs[i] := List.getElem?_eq_getElem hi
    have ej : qs[j]? = some qs[j] := List.getElem?_eq_getElem hj
    show kas_ask prog w A (tuples' true) (refs qs) i j _ s
    unfold kas_ask
    rw [refs_get ei, refs_get ej]
    refine lit_lt (hq _ (List.getElem_mem hi)) (hq _ (List.getElem_mem hj)) ?_
    rcases hlt i j _ _ ei ej with e | e
    · rw [← e]
      refine ih (lt i j) ?_ h
      cases lt i j
      · exact ha.2
      · exact ha.1.2
    · exact absurd e ha.1.1.2

/-- the sort's run over two or three literals, all different -/
theorem below_2 {i : Nat} (h : i < 2) : i = 0 ∨ i = 1 := by omega
theorem below_3 {i : Nat} (h : i < 3) : i = 0 ∨ i = 1 ∨ i = 2 := by omega
theorem run_lits {qs : List (Lit × Addr)} {Q : Array Nat → Shared → Prop} (hlen : qs.length = 2 ∨ qs.length = 3) (hnd : (qs.map (·.1)).Nodup) (hq : ∀ q ∈ qs, LitObj s.heap q.1 q.2)
    (h : ∀ (p : Array Nat) (qs' : List (Lit × Addr)), (p.toList.map fun i => (refs qs).getD i .none) = refs qs' → List.Perm qs' qs → (qs'.map (·.1)).Pairwise (fun a b => litLt a b = true) → Q p s) :
    (kas_sort (refs qs).length).kasWp (kas_ask prog w A (tuples' true) (refs qs)) Q s := by
  have hrl : (refs qs).length = qs.length := by simp [refs]
  rw [hrl]
  have ask := run_ask (prog := prog) (w := w) (A := A) (s := s) (Q := Q) (qs := qs) hq
  rcases qs with _ | ⟨q0, _ | ⟨q1, _ | ⟨q2, _ | ⟨q3, qs⟩⟩⟩⟩
  · simp at hlen
  · simp at hlen
  · clear hlen
    have ne : q0.1 ≠ q1.1 := by simp at hnd; exact hnd
    change KasT.kasWp _ (kas_sort 2) Q s
    refine ask (lt3 (litLt q0.1 q1.1) false false) 2 rfl (fun i j q q' hi hj => ?_) _ asks2 ?_
    · have hi' : i < 2 := (List.getElem?_eq_some_iff.mp hi).1
      have hj' : j < 2 := (List.getElem?_eq_some_iff.mp hj).1
      rcases below_2 hi' with rfl | rfl <;> rcases below_2 hj' with rfl | rfl <;> cases hi <;> cases hj
      · exact .inr rfl
      · exact .inl rfl
      · exact .inl (litLt_flip ne).symm
      · exact .inr rfl
    · have r := run2 (litLt q0.1 q1.1)
      cases hc : litLt q0.1 q1.1 with
      | true =>
        rw [hc] at r
        exact h _ [q0, q1] (by rw [r]; simp [refs]) (List.Perm.refl _) (by simp [hc])
      | false =>
        rw [hc] at r
        exact h _ [q1, q0] (by rw [r]; simp [refs]) (List.Perm.swap _ _ _) (by simp [litLt_flip ne, hc])
  · clear hlen
    change KasT.kasWp _ (kas_sort 3) Q s
    have n01 : q0.1 ≠ q1.1 := by simp at hnd; exact hnd.1.1
    have n02 : q0.1 ≠ q2.1 := by simp at hnd; exact hnd.1.2
    have n12 : q1.1 ≠ q2.1 := by simp at hnd; exact hnd.2
    have lt_is : ∀ i j q q', [q0, q1, q2][i]? = some q → [q0, q1, q2][j]? = some q' → lt3 (litLt q0.1 q1.1) (litLt q0.1 q2.1) (litLt q1.1 q2.1) i j = litLt q.1 q'.1 ∨ i = j := by
      intro i j q q' hi hj
      have hi' : i < 3 := (List.getElem?_eq_some_iff.mp hi).1
      have hj' : j < 3 := (List.getElem?_eq_some_iff.mp hj).1
      rcases below_3 hi' with rfl | rfl | rfl <;> rcases below_3 hj' with rfl | rfl | rfl <;> cases hi <;> cases hj
      · exact .inr rfl
      · exact .inl rfl
      · exact .inl rfl
      · exact .inl (litLt_flip n01).symm
      · exact .inr rfl
      · exact .inl rfl
      · exact .inl (litLt_flip n02).symm
      · exact .inl (litLt_flip n12).symm
      · exact .inr rfl
    refine ask _ 3 rfl lt_is _ asks3 ?_
    obtain ⟨p, q, r, hp, hq', hr, e, hperm, l1, l2⟩ := run3 (litLt q0.1 q1.1) (litLt q0.1 q2.1) (litLt q1.1 q2.1)
      (fun ⟨a, c, b⟩ => by have := litLt_trans a c; rw [b] at this; cases this)
      (fun ⟨a, c, b⟩ => by
        have h1 : litLt q1.1 q0.1 = true := by rw [litLt_flip n01, a]; rfl
        have h2 : litLt q2.1 q1.1 = true := by rw [litLt_flip n12, c]; rfl
        have h3 := litLt_trans h2 h1
        rw [litLt_flip n02, b] at h3
        cases h3)
    have gp : [q0, q1, q2][p]? = some ([q0, q1, q2][p]) := List.getElem?_eq_getElem hp
    have gq : [q0, q1, q2][q]? = some ([q0, q1, q2][q]) := List.getElem?_eq_getElem hq'
    have gr : [q0, q1, q2][r]? = some ([q0, q1, q2][r]) := List.getElem?_eq_getElem hr
    have npq : p ≠ q := fun e => by subst e; rcases below_3 hp with rfl | rfl | rfl <;> cases l1
    have nqr : q ≠ r := fun e => by subst e; rcases below_3 hq' with rfl | rfl | rfl <;> cases l2
    have s1 : litLt ([q0, q1, q2][p]).1 ([q0, q1, q2][q]).1 = true := (lt_is p q _ _ gp gq).elim (fun e => e ▸ l1) fun e => absurd e npq
    have s2 : litLt ([q0, q1, q2][q]).1 ([q0, q1, q2][r]).1 = true := (lt_is q r _ _ gq gr).elim (fun e => e ▸ l2) fun e => absurd e nqr
    refine h _ [[q0, q1, q2][p], [q0, q1, q2][q], [q0, q1, q2][r]] ?_ ?_ ?_
    · rw [e]
      simp only [List.map_cons, List.map_nil]
      rw [refs_get gp, refs_get gq, refs_get gr]
      rfl
    · have := hperm.map fun i => [q0, q1, q2].getD i q0
      have e1 : [q0, q1, q2].getD p q0 = [q0, q1, q2][p] := by rw [List.getD_eq_getElem?_getD, gp]; rfl
      have e2 : [q0, q1, q2].getD q q0 = [q0, q1, q2][q] := by rw [List.getD_eq_getElem?_getD, gq]; rfl
      have e3 : [q0, q1, q2].getD r q0 = [q0, q1, q2][r] := by rw [List.getD_eq_getElem?_getD, gr]; rfl
      simp only [List.map_cons, List.map_nil, e1, e2, e3] at this
      exact this
    · simp only [List.map_cons, List.map_nil]
      exact .cons (by simp [s1, litLt_trans s1 s2]) (.cons (by simp [s2]) (.cons (by simp) .nil))
  · simp at hlen
end
end Mine
end

section
set_option maxRecDepth 100000
open PySem PySem.W PySem.Calls PyProof.Rows
namespace Mine

theorem perm_of_map {α β : Type} {f : α → β} {l : List β} {v : List β} (h : List.Perm l v) : ∀ Z : List α, l = Z.map f → ∃ Z' : List α, List.Perm Z' Z ∧ v = Z'.map f := by
  induction h with
  | nil => intro Z hZ; exact ⟨[], by cases Z <;> simp_all, rfl⟩
  | cons x _ ih =>
    intro Z hZ
    cases Z with
    | nil => simp at hZ
    | cons z Z =>
      simp only [List.map_cons, List.cons.injEq] at hZ
      refine hide_goal fun kHide => ?_
      obtain ⟨Z', h1, h2⟩ := ih Z hZ.2
      refine kHide ?_
      clear kHide
      exact ⟨z :: Z', h1.cons z, by rw [h2, hZ.1]; rfl⟩
  | swap x y l =>
    intro Z hZ
    match Z, hZ with
    | z1 :: z2 :: Z, hZ =>
      simp only [List.map_cons, List.cons.injEq] at hZ
      exact ⟨z2 :: z1 :: Z, List.Perm.swap _ _ _, by rw [hZ.1, hZ.2.1, hZ.2.2]; rfl⟩
    | [], hZ => simp at hZ
    | [_], hZ => simp at hZ
  | trans _ _ ih1 ih2 =>
    intro Z hZ
    refine hide_goal fun kHide => ?_
    obtain ⟨Z1, h1, h2⟩ := ih1 Z hZ
    obtain ⟨Z2, h3, h4⟩ := ih2 Z1 h2
    refine kHide ?_
    clear kHide
    exact ⟨Z2, h3.trans h1, h4⟩

section
variable {prog : Program} {w : World} {A : Around} {E : Value → Shared → Prop} {s : Shared} {h₀ h : Heap} {L a : Addr} {m : Str → Option Value} {news : List (Addr × Obj)}
/-- list.sort() on at most three literals, all different -/
theorem sort_lits {n : Nat} {P : PySem.Fin → Shared → Prop} {qs : List (Lit × Addr)} (F : Fr h₀ L s.heap m) (N : News h₀ L s.heap news) (ho : s.heap.get? a = some (seqObj "list" (refs qs).toArray n)) (haL : a ≠ L) (ha0 : h₀.get? a = none) (hna : ∀ p ∈ news, p.1 ≠ a)
    (hlen : qs.length ≤ 3) (hnd : (qs.map (·.1)).Nodup) (hq : ∀ q ∈ qs, LitIn news q.1 q.2)
    (h : ∀ h' tk qs' c, Fr h₀ L h' m → News h₀ L h' ((a, listOf (refs qs').toArray c) :: news) → List.Perm qs' qs → (qs'.map (·.1)).Pairwise (fun x y => litLt x y = true) → P (.done (.ret .none)) { s with heap := h', toks := tk }) :
    wpAny (model prog w) A (Builtin.«list.sort» ⟨[.ref a], []⟩) P E s := by
  have hrl : (refs qs).length = qs.length := by simp [refs]
  by_cases h2 : 2 ≤ qs.length
  · refine kat_list_sort F N ho haL ha0 hna (by omega) (by omega) fun e1 h' F' N' => ?_
    have hobj : ∀ q ∈ qs, LitObj h' q.1 q.2 := fun q hm => ((hq q hm).mono fun p hp => List.mem_cons_of_mem _ hp).obj N'
    refine hide_goal fun kHide => ?_
    obtain ⟨fs, t, hfl, hfi⟩ := tups_of qs hobj
    refine kHide ?_
    clear kHide
    refine kat_kind (T := .type "int") t (by omega) (fun v hv => ?_) (by decide) ?_
    · refine hide_goal fun kHide => ?_
      obtain ⟨i, t, rfl⟩ := hfi v hv
      refine kHide ?_
      clear kHide
      exact Looks.of_pure rfl
    · rw [show (Value.type "int" != Value.type "tuple") = true by decide]
      refine run_lits (s := { s with heap := h' }) (by omega) hnd hobj fun p qs' hp hperm hpw => ?_
      rw [hp]
      refine KasFin.intro F' N' (.head hna) fun h'' c F'' N'' => ?_
      exact h h'' s.toks qs' c F'' N'' hperm hpw
  · rw [list_sort_plain]
    have ha : a < s.heap.objs.size := Heap.lt_size ho
    refine wpAny_bind (listItems_at ho rfl ?_)
    refine wpAny_bind (listUpdate_at ho rfl ?_ (by rw [List.size_toArray, sizeLine_eq]; omega) (Nat.zero_le _))
    have s1 := Heap.SameBut.update s.heap a (Obj.mapSeq fun _ => (#[] : Array Value))
    obtain ⟨e1, ho1⟩ : ∃ e1, (s.heap.update a (Obj.mapSeq fun _ => (#[] : Array Value))).get? a = some (seqObj "list" #[] e1) := ⟨_, get?_update_seq ho fun _ => #[]⟩
    refine wpAny_bind (seqEpoch_at ho1 rfl ?_)
    refine wpAny_bind (wpAny_newTuple ?_ (by show (refs qs).length ≤ _; rw [sizeLine_eq]; omega))
    refine wpAny_bind (wpAny_newList ?_ (Nat.zero_le _))
    refine wpAny_holding ?_
    have F3 : Fr h₀ L (((s.heap.update a (Obj.mapSeq fun _ => (#[] : Array Value))).push (seqObj "tuple" (refs qs).toArray 0)).push (seqObj "list" #[] 0)) m := ((kas_fr F s1 haL ha0).push _).push _
    have N2 : News h₀ L (((s.heap.update a (Obj.mapSeq fun _ => (#[] : Array Value))).push (seqObj "tuple" (refs qs).toArray 0)).push (seqObj "list" #[] 0)) news :=
      (kas_news N s1 hna).grown fun b x e => Heap.get?_push_of_some _ (Heap.get?_push_of_some _ e)
    have ho3 : (((s.heap.update a (Obj.mapSeq fun _ => (#[] : Array Value))).push (seqObj "tuple" (refs qs).toArray 0)).push (seqObj "list" #[] 0)).get? a = some (seqObj "list" #[] e1) := Heap.get?_push_of_some _ (Heap.get?_push_of_some _ ho1)
    show wpAny (model prog w) A _ P E { s with heap := ((s.heap.update a (Obj.mapSeq fun _ => (#[] : Array Value))).push (seqObj "tuple" (refs qs).toArray 0)).push (seqObj "list" #[] 0) }
    generalize ((s.heap.update a (Obj.mapSeq fun _ => (#[] : Array Value))).push (seqObj "tuple" (refs qs).toArray 0)).push (seqObj "list" #[] 0) = H at F3 N2 ho3 ⊢
    dsimp only
    have hn2 : (refs qs).toArray.size < 2 := by rw [List.size_toArray]; omega
    rw [if_pos hn2, if_pos hn2]
    refine wpAny_bind (wpAny_pure ?_)
    rw [StateT.run_pure]
    refine wpAny_bind (wpAny_pure ?_)
    dsimp only
    refine wpAny_bind (seqEpoch_at ho3 rfl ?_)
    have hout : (arrOf (SortSt.mk' general' ((refs qs).toArray.zip (refs qs).toArray) #[] 7 none)).map (·.2) = (refs qs).toArray := by
      apply Array.toList_inj.mp
      show (((refs qs).toArray.zip (refs qs).toArray).map (·.2)).toList = _
      simp only [Array.toList_map, Array.toList_zip, List.toList_toArray]
      generalize refs qs = l
      induction l with
      | nil => rfl
      | cons x l ih => simp only [List.zip_cons_cons, List.map_cons, ih]
    rw [hout]
    have s2 := Heap.SameBut.update H a (Obj.mapSeq fun _ => (refs qs).toArray)
    obtain ⟨c2, hc2⟩ : ∃ c2, (H.update a (Obj.mapSeq fun _ => (refs qs).toArray)).get? a = some (seqObj "list" (refs qs).toArray c2) := ⟨_, get?_update_seq ho3 fun _ => (refs qs).toArray⟩
    refine wpAny_bind (listUpdate_at ho3 rfl ?_ (Nat.zero_le _) (by rw [List.size_toArray, sizeLine_eq]; omega))
    simp only [bne_self_eq_false, Bool.false_eq_true, if_false]
    refine wpAny_pure (h _ s.toks qs c2 (kas_fr F3 s2 haL ha0) ?_ (List.Perm.refl _) ?_)
    · intro p hp
      rcases List.mem_cons.mp hp with rfl | hp
      · exact ⟨hc2, haL, ha0⟩
      · exact kas_news N2 s2 hna p hp
    · match qs, h2 with
      | [], _ => exact .nil
      | [_], _ => simp
      | _ :: _ :: _, h2 => simp at h2

theorem pairs_of (ZL : List (Lit × Addr)) {Z : List (Row (List Atom))} (h : Z.map (·.2) = ZL.map fun q => (litK q.1, q.2)) : refsOf Z = refs ZL := by
  have e1 : refsOf Z = (Z.map (·.2)).map fun p => Value.ref p.2 := by simp [refsOf]
  rw [e1, h]; simp [refs]
theorem lits_of : ∀ (Z : List (Row (List Atom))), (∀ z ∈ Z, ∃ l, z.2.1 = litK l ∧ LitIn news l z.2.2) → ∃ ZL : List (Lit × Addr), Z.map (·.2) = ZL.map (fun q => (litK q.1, q.2)) ∧ ∀ q ∈ ZL, LitIn news q.1 q.2
  | [], _ => ⟨[], rfl, fun _ h => by cases h⟩
  | z :: Z, h => by
    refine hide_goal fun kHide => ?_
    obtain ⟨ZL, h1, h2⟩ := lits_of Z fun y hy => h y (List.mem_cons_of_mem _ hy)
    obtain ⟨l, e, hl⟩ := h z List.mem_cons_self
    refine kHide ?_
    clear kHide
    refine ⟨(l, z.2.2) :: ZL, by rw [List.map_cons, List.map_cons, h1, ← e], fun q hq => ?_⟩
    rcases List.mem_cons.mp hq with rfl | hq
    · exact hl
    · exact h2 q hq
theorem nodup_lits {Z : List (Row (List Atom))} {ZL : List (Lit × Addr)} (h : Z.map (·.2) = ZL.map fun q => (litK q.1, q.2)) (hn : (Z.map (·.2.1)).Nodup) : (ZL.map (·.1)).Nodup := by
  have e1 : Z.map (·.2.1) = (ZL.map (·.1)).map litK := by
    have e2 : Z.map (·.2.1) = (Z.map (·.2)).map (·.1) := by rw [List.map_map]; rfl
    rw [e2, h, List.map_map, List.map_map]; rfl
  rw [e1] at hn
  exact (List.pairwise_map.mp hn).imp fun hne e => hne (by rw [e])

/-- sorted(S): S a set of at most three literals -/
theorem sorted_set {S : Addr} {Z : List (Row (List Atom))} {ep fi mo : Nat} {led plain : Bool} {Q : Value → Shared → Prop} (F : Fr h₀ L s.heap m) (N : News h₀ L s.heap news) (hh : A.handled = none)
    (ho : s.heap.get? S = some (setOb prog w Z ep fi led mo plain)) (hl : led = !w.params.followText "set-order") (hR : Rising Z) (hnd : (Z.map (·.2.1)).Nodup) (hlen : Z.length ≤ 3) (hZ : ∀ z ∈ Z, ∃ l, z.2.1 = litK l ∧ LitIn news l z.2.2)
    (h : ∀ D h' tk d qs c, Fr h₀ L h' m → News h₀ L h' ((D, listOf (refs qs).toArray c) :: news) → (∀ q ∈ news, q.1 < D) → (qs.map (·.1)).Pairwise (fun x y => litLt x y = true) → (∀ q ∈ qs, LitIn news q.1 q.2) → qs.length ≤ 3 →
      (∀ l, l ∈ qs.map (·.1) ↔ litK l ∈ Z.map (·.2.1)) → Q (.ref D) { s with heap := h', toks := tk, drawn := d }) :
    wpAny (model prog w) A (call (.builtin "sorted") [.ref S]) Q E s := by
  refine hide_goal fun kHide => ?_
  obtain ⟨ZL, e1, e2⟩ := lits_of Z hZ
  refine kHide ?_
  clear kHide
  have hZl : Z.length = ZL.length := by have := congrArg List.length e1; simpa using this
  refine Calls.call_function_entry kind_sorted plain_sorted entry_sorted (args_sorted1 _) ?_
  unfold Builtin.«sorted»
  refine wpAny_bind (m := checkCount "sorted" 1 1 _) (wpAny_pure ?_)
  refine wpAny_bind (collect_set (A := A.in1) (by rw [Around.in1_handled]; exact hh) (by omega) hR hl ho fun h1 tk1 d1 vs hp keep => ?_)
  rw [pairs_of ZL e1] at hp
  refine hide_goal fun kHide => ?_
  obtain ⟨qs, hqp, rfl⟩ := perm_of_map (f := fun q : Lit × Addr => Value.ref q.2) (l := refs ZL) hp.symm ZL rfl
  refine kHide ?_
  clear kHide
  have hql : qs.length ≤ 3 := by rw [hqp.length_eq, ← hZl]; exact hlen
  refine wpAny_bind (wpAny_newList ?_ (by rw [List.length_map, sizeLine_eq]; omega))
  have F1 : Fr h₀ L h1 m := F.kept keep
  have N1 : News h₀ L h1 news := N.grown keep
  have hoL : (h1.push (seqObj "list" (refs qs).toArray 0)).get? h1.objs.size = some (seqObj "list" (refs qs).toArray 0) := Heap.get?_push_size _ rfl
  have hL : L < h1.objs.size := F1.ns.lt
  show wpAny _ _ _ _ _ { s with heap := h1.push (seqObj "list" (refs qs).toArray 0), toks := tk1, drawn := d1 }
  refine wpAny_bind (wpAny_holding (wpAny_call_entry slot_list_sort ⟨_, hoL, rfl⟩ entry_list_sort ?body (args_list_sort _)))
  case body =>
    refine sort_lits (s := { s with heap := h1.push (seqObj "list" (refs qs).toArray 0), toks := tk1, drawn := d1 }) (F1.push _) (N1.grown fun b o e => Heap.get?_push_of_some _ e) hoL (Nat.ne_of_gt hL) (Heap.get?_none_of_le (Nat.le_trans F1.above (Nat.le_of_lt hL)))
      (fun p hp => Nat.ne_of_lt (Heap.lt_size (N1 p hp).1)) hql ((hqp.map (·.1)).nodup_iff.mpr (nodup_lits e1 hnd)) (fun q hq => e2 q (hqp.mem_iff.mp hq)) fun h2 tk2 qs' c F2 N2 hp2 hpw => ?_
    refine ⟨_, rfl, wpAny_pure ⟨_, rfl, h _ h2 tk2 d1 qs' c F2 N2 (fun q hq => Heap.lt_size (N1 q hq).1) hpw (fun q hq => e2 q (hqp.mem_iff.mp (hp2.mem_iff.mp hq))) (by rw [hp2.length_eq]; exact hql) fun l => ?_⟩⟩
    rw [((hp2.trans hqp).map (·.1)).mem_iff]
    have e3 : Z.map (·.2.1) = (ZL.map (·.1)).map litK := by
      have e4 : Z.map (·.2.1) = (Z.map (·.2)).map (·.1) := by rw [List.map_map]; rfl
      rw [e4, e1, List.map_map, List.map_map]; rfl
    rw [e3]
    constructor
    · intro hl'; exact List.mem_map_of_mem hl'
    · intro hl'
      refine hide_goal fun kHide => ?_
      obtain ⟨l2, h2, h3⟩ := List.mem_map.mp hl'
      refine kHide ?_
      clear kHide
      rw [← litK_inj h3]; exact h2
end
end Mine
end

section
set_option maxRecDepth 100000
open PySem PySem.W PySem.Calls PyProof.Rows
namespace Mine

/-- a set's object that bears the literals ls -/
noncomputable def SetLits (prog : Program) (w : World) (news : List (Addr × Obj)) (o : Obj) (ls : List Lit) : Prop :=
  ∃ Z ep fi mo plain, o = setOb prog w Z ep fi (!w.params.followText "set-order") mo plain ∧ Rising Z ∧ (Z.map (·.2.1)).Nodup ∧ Z.length ≤ 3 ∧ (∀ z ∈ Z, ∃ l, z.2.1 = litK l ∧ LitIn news l z.2.2) ∧ ∀ l, l ∈ ls ↔ litK l ∈ Z.map (·.2.1)

section
variable {prog : Program} {w : World} {A : Around} {E : Value → Shared → Prop} {s : Shared} {h₀ h : Heap} {L a : Addr} {m : Str → Option Value} {news : List (Addr × Obj)} {qs : List (Lit × Addr)} {n : Nat}
theorem after_lits {h₁ : Heap} {Z : List (Row (List Atom))} {S : Addr} (hZ : SetAfter prog w (!w.params.followText "set-order") S [] h₁ h (qs.map fun q => (litK q.1, q.2)) Z) (hq : ∀ q ∈ qs, LitIn news q.1 q.2) (hl : qs.length ≤ 3) :
    ∃ o, h.get? S = some o ∧ SetLits prog w news o (qs.map (·.1)) := by
  refine hide_goal fun kHide => ?_
  obtain ⟨⟨ep, fi, mo, plain, ho⟩, inv, _, fr, hs, hlen⟩ := hZ
  refine kHide ?_
  clear kHide
  refine ⟨_, ho, Z, ep, fi, mo, plain, rfl, inv.rising, inv.nodup, by rw [List.length_map] at hlen; omega, fun z hz => ?_, fun l => ⟨fun h => ?_, fun h => ?_⟩⟩
  · refine hide_goal fun kHide => ?_
    obtain ⟨q, hq1, hq2⟩ := List.mem_map.mp (fr z.2 (List.mem_map_of_mem hz))
    refine kHide ?_
    clear kHide
    have e1 : z.2.1 = litK q.1 := by rw [← hq2]
    have e2 : z.2.2 = q.2 := by rw [← hq2]
    exact ⟨q.1, e1, e2 ▸ hq q hq1⟩
  · refine hide_goal fun kHide => ?_
    obtain ⟨q, hq1, rfl⟩ := List.mem_map.mp h
    refine kHide ?_
    clear kHide
    exact hs (litK q.1, q.2) (List.mem_map_of_mem (f := fun q : Lit × Addr => (litK q.1, q.2)) hq1)
  · refine hide_goal fun kHide => ?_
    obtain ⟨z, hz, e⟩ := List.mem_map.mp h
    obtain ⟨q, hq1, hq2⟩ := List.mem_map.mp (fr z.2 (List.mem_map_of_mem hz))
    refine kHide ?_
    clear kHide
    have e1 : z.2.1 = litK q.1 := by rw [← hq2]
    rw [e1] at e
    rw [← litK_inj e]
    exact List.mem_map_of_mem hq1

theorem set_list {l : Addr} {Q : Value → Shared → Prop} (F : Fr h₀ L s.heap m) (N : News h₀ L s.heap news) (hh : A.handled = none) (hu : A.units + 8 < cLine) (hl : (l, ({ cls := .type "list", data := .seq (refs qs).toArray n } : Obj)) ∈ news) (hq : ∀ q ∈ qs, LitIn news q.1 q.2) (hn : qs.length ≤ 3)
    (h : ∀ S o h' tk, Fr h₀ L h' m → News h₀ L h' ((S, o) :: news) → (∀ q ∈ news, q.1 < S) → SetLits prog w news o (qs.map (·.1)) → Q (.ref S) { s with heap := h', toks := tk }) :
    wpAny (model prog w) A (call (.type "set") [.ref l]) Q E s := by
  have ho := (N _ hl).1
  have hrl : (refs qs).length = qs.length := by simp [refs]
  have lst : ∀ h' : Heap, (∀ b o, s.heap.get? b = some o → h'.get? b = some o) → h'.IsList l (refs qs).toArray := fun h' k => ⟨_, k _ _ ho, rfl, n, rfl⟩
  refine call_set (T := "list") (qs := qs.map fun q => (litK q.1, q.2)) (n := (refs qs).toArray.size) (P := fun i v => (refs qs).toArray[i]? = some v) (St := fun I i h => h.IsListIter I l i ∧ h.IsList l (refs qs).toArray) hh hu ho rfl PySem.F.sub_list_set PySem.F.sub_list_frozenset (by decide)
    (fun A' h' Q' E' k hq' => wpAny_pyIter_list (lst h' k) hq') (fun A' I hA hne => Walks.list hA I l hne _) (fun h' k => ⟨⟨_, Heap.get?_push_size _ rfl, rfl, rfl⟩, (lst h' k).push _⟩) (by rw [List.size_toArray]; omega) (by rw [List.size_toArray, hrl, List.length_map])
    (fun i v hv => ?_) (fun q hq' => ?_) fun h' tk Z hZ => ?_
  · simp only [refs, List.getElem?_toArray, List.getElem?_map, Option.map_eq_some_iff] at hv
    refine hide_goal fun kHide => ?_
    obtain ⟨q, q1, rfl⟩ := hv
    refine kHide ?_
    clear kHide
    exact ⟨(litK q.1, q.2), by rw [List.getElem?_map, q1]; rfl, rfl⟩
  · refine hide_goal fun kHide => ?_
    obtain ⟨q, q1, rfl⟩ := List.mem_map.mp hq'
    refine kHide ?_
    clear kHide
    exact (hq q q1).key N
  · refine hide_goal fun kHide => ?_
    obtain ⟨o, ho', hs⟩ := after_lits hZ hq hn
    refine kHide ?_
    clear kHide
    have keep : ∀ b o, s.heap.get? b = some o → h'.get? b = some o := fun b o e => hZ.keep b o (Nat.ne_of_lt (Heap.lt_size e)) (by simp) e
    refine h _ o h' tk (F.kept keep) (fun p hp => ?_) (fun q hq => Heap.lt_size (N q hq).1) hs
    rcases List.mem_cons.mp hp with rfl | hp
    · exact ⟨ho', Nat.ne_of_gt F.ns.lt, next_is_new F⟩
    · exact N.grown keep p hp
theorem set_tuple {l : Addr} {Q : Value → Shared → Prop} (F : Fr h₀ L s.heap m) (N : News h₀ L s.heap news) (hh : A.handled = none) (hu : A.units + 8 < cLine) (hl : (l, ({ cls := .type "tuple", data := .seq (refs qs).toArray n } : Obj)) ∈ news) (hq : ∀ q ∈ qs, LitIn news q.1 q.2) (hn : qs.length ≤ 3)
    (h : ∀ S o h' tk, Fr h₀ L h' m → News h₀ L h' ((S, o) :: news) → (∀ q ∈ news, q.1 < S) → SetLits prog w news o (qs.map (·.1)) → Q (.ref S) { s with heap := h', toks := tk }) :
    wpAny (model prog w) A (call (.type "set") [.ref l]) Q E s := by
  have ho := (N _ hl).1
  have hrl : (refs qs).length = qs.length := by simp [refs]
  have lst : ∀ h' : Heap, (∀ b o, s.heap.get? b = some o → h'.get? b = some o) → h'.IsTuple l (refs qs).toArray := fun h' k => ⟨_, k _ _ ho, rfl, n, rfl⟩
  refine call_set (T := "tuple") (qs := qs.map fun q => (litK q.1, q.2)) (n := (refs qs).toArray.size) (P := fun i v => (refs qs).toArray[i]? = some v) (St := fun I i h => h.IsTupleIter I l i ∧ h.IsTuple l (refs qs).toArray) hh hu ho rfl PySem.F.sub_tuple_set PySem.F.sub_tuple_frozenset (by decide)
    (fun A' h' Q' E' k hq' => wpAny_pyIter_tuple (lst h' k) hq') (fun A' I hA hne => Walks.tuple hA I l hne _) (fun h' k => ⟨⟨_, Heap.get?_push_size _ rfl, rfl, rfl⟩, (lst h' k).push _⟩) (by rw [List.size_toArray]; omega) (by rw [List.size_toArray, hrl, List.length_map])
    (fun i v hv => ?_) (fun q hq' => ?_) fun h' tk Z hZ => ?_
  · simp only [refs, List.getElem?_toArray, List.getElem?_map, Option.map_eq_some_iff] at hv
    refine hide_goal fun kHide => ?_
    obtain ⟨q, q1, rfl⟩ := hv
    refine kHide ?_
    clear kHide
    exact ⟨(litK q.1, q.2), by rw [List.getElem?_map, q1]; rfl, rfl⟩
  · refine hide_goal fun kHide => ?_
    obtain ⟨q, q1, rfl⟩ := List.mem_map.mp hq'
    refine kHide ?_
    clear kHide
    exact (hq q q1).key N
  · refine hide_goal fun kHide => ?_
    obtain ⟨o, ho', hs⟩ := after_lits hZ hq hn
    refine kHide ?_
    clear kHide
    have keep : ∀ b o, s.heap.get? b = some o → h'.get? b = some o := fun b o e => hZ.keep b o (Nat.ne_of_lt (Heap.lt_size e)) (by simp) e
    refine h _ o h' tk (F.kept keep) (fun p hp => ?_) (fun q hq => Heap.lt_size (N q hq).1) hs
    rcases List.mem_cons.mp hp with rfl | hp
    · exact ⟨ho', Nat.ne_of_gt F.ns.lt, next_is_new F⟩
    · exact N.grown keep p hp

theorem sorted_lits {S : Addr} {o : Obj} {ls : List Lit} {Q : Value → Shared → Prop} (F : Fr h₀ L s.heap m) (N : News h₀ L s.heap news) (hh : A.handled = none) (hS : (S, o) ∈ news) (ho : SetLits prog w news o ls)
    (h : ∀ D h' tk d qs c, Fr h₀ L h' m → News h₀ L h' ((D, listOf (refs qs).toArray c) :: news) → (∀ q ∈ news, q.1 < D) → (qs.map (·.1)).Pairwise (fun x y => litLt x y = true) → (∀ q ∈ qs, LitIn news q.1 q.2) → qs.length ≤ 3 →
      (∀ l, l ∈ qs.map (·.1) ↔ l ∈ ls) → Q (.ref D) { s with heap := h', toks := tk, drawn := d }) :
    wpAny (model prog w) A (call (.builtin "sorted") [.ref S]) Q E s := by
  refine hide_goal fun kHide => ?_
  obtain ⟨Z, ep, fi, mo, plain, rfl, hR, hnd, hl, hZ, hm⟩ := ho
  refine kHide ?_
  clear kHide
  exact sorted_set F N hh (N _ hS).1 rfl hR hnd hl hZ fun D h' tk d qs c F' N' h1 h2 h3 h4 h5 => h D h' tk d qs c F' N' h1 h2 h3 h4 fun l => (h5 l).trans (hm l).symm
end

/-! ### the clause of some literals -/
noncomputable def insLit (l : Lit) : List Lit → List Lit
  | [] => [l]
  | x :: r => if l = x then x :: r else if litLt l x then l :: x :: r else x :: insLit l r
noncomputable def norm : List Lit → List Lit
  | [] => []
  | l :: r => insLit l (norm r)
noncomputable abbrev Asc (ls : List Lit) : Prop := ls.Pairwise fun x y => litLt x y = true
theorem mem_ins (l y : Lit) : ∀ r, y ∈ insLit l r ↔ y = l ∨ y ∈ r
  | [] => by simp [insLit]
  | x :: r => by
    unfold insLit
    split
    · rename_i e; subst e; simp
    · split
      · simp
      · rw [List.mem_cons, mem_ins l y r, List.mem_cons]
        constructor
        · rintro (h | h | h) <;> simp [h]
        · rintro (h | h | h) <;> simp [h]
theorem mem_norm (y : Lit) : ∀ r, y ∈ norm r ↔ y ∈ r
  | [] => Iff.rfl
  | l :: r => by unfold norm; rw [mem_ins, mem_norm y r, List.mem_cons]
theorem asc_ins (l : Lit) : ∀ r, Asc r → Asc (insLit l r)
  | [], _ => by simp [insLit, Asc]
  | x :: r, h => by
    unfold insLit
    refine hide_goal fun kHide => ?_
    obtain ⟨h1, h2⟩ := List.pairwise_cons.mp h
    refine kHide ?_
    clear kHide
    split
    · exact h
    · rename_i ne
      split
      · rename_i hl
        refine List.pairwise_cons.mpr ⟨fun y hy => ?_, h⟩
        rcases List.mem_cons.mp hy with rfl | hy
        · exact hl
        · exact litLt_trans hl (h1 y hy)
      · rename_i hl
        refine List.pairwise_cons.mpr ⟨fun y hy => ?_, asc_ins l r h2⟩
        rcases (mem_ins l y r).mp hy with rfl | hy
        · rw [litLt_flip ne]; simpa using hl
        · exact h1 y hy
theorem asc_norm : ∀ r, Asc (norm r)
  | [] => .nil
  | l :: r => asc_ins l _ (asc_norm r)
theorem litLt_irrefl (l : Lit) : litLt l l = false := by simp [litLt]
theorem asc_unique : ∀ (a b : List Lit), Asc a → Asc b → (∀ l, l ∈ a ↔ l ∈ b) → a = b
  | [], [], _, _, _ => rfl
  | [], y :: b, _, _, h => absurd ((h y).mpr List.mem_cons_self) (by simp)
  | x :: a, [], _, _, h => absurd ((h x).mp List.mem_cons_self) (by simp)
  | x :: a, y :: b, ha, hb, h => by
    refine hide_goal fun kHide => ?_
    obtain ⟨a1, a2⟩ := List.pairwise_cons.mp ha
    obtain ⟨b1, b2⟩ := List.pairwise_cons.mp hb
    refine kHide ?_
    clear kHide
    have e : x = y := by
      apply Classical.byContradiction
      intro ne
      have hx : x ∈ b := by
        rcases List.mem_cons.mp ((h x).mp List.mem_cons_self) with q | q
        · exact absurd q ne
        · exact q
      have hy : y ∈ a := by
        rcases List.mem_cons.mp ((h y).mpr List.mem_cons_self) with q | q
        · exact absurd q.symm ne
        · exact q
      have := litLt_trans (a1 y hy) (b1 x hx)
      rw [litLt_irrefl] at this; cases this
    subst e
    rw [asc_unique a b a2 b2 fun l => ?_]
    constructor
    · intro hl
      rcases List.mem_cons.mp ((h l).mp (List.mem_cons_of_mem _ hl)) with q | q
      · subst q
        have := a1 l hl
        rw [litLt_irrefl] at this; cases this
      · exact q
    · intro hl
      rcases List.mem_cons.mp ((h l).mpr (List.mem_cons_of_mem _ hl)) with q | q
      · subst q
        have := b1 l hl
        rw [litLt_irrefl] at this; cases this
      · exact q
theorem norm_unique {ls a : List Lit} (ha : Asc a) (h : ∀ l, l ∈ a ↔ l ∈ ls) : a = norm ls := asc_unique a _ ha (asc_norm ls) fun l => (h l).trans (mem_norm l ls).symm
end Mine
end

section
set_option maxRecDepth 100000
open PySem PySem.W PySem.Calls PyProof.Rows
namespace Mine
section
variable {prog : Program} {w : World} {K : Type} [DecidableEq K] {knd : HeapKind prog w K} {A : Around} {E : Value → Shared → Prop} {s : Shared} {d a : Addr} {k : K} {xs : List (K × Addr × Value)}
theorem dictSetDefault_heap {dflt : Value} {Q : Value → Shared → Prop} (hu : knd.room A) (hkey : knd.is s.heap k a) (hm : s.heap.DictOfH knd d xs) (hsz : xs.length ≤ sizeLine)
    (h1 : ∀ p, atKey xs k = some p → Q p.2 { s with toks := s.toks + knd.draws k })
    (hQ : atKey xs k = none → ∀ h', h'.DictOfH knd d (xs ++ [(k, a, dflt)]) → Heap.SameBut d s.heap h' → Q dflt { s with heap := h', toks := s.toks + knd.draws k }) :
    wpAny (model prog w) A (dictSetDefault d (.ref a) dflt) Q E s := by
  refine hide_goal fun kHide => ?_
  obtain ⟨o, es, ep, ho, hc, hd, he, his, hn⟩ := hm
  refine kHide ?_
  clear kHide
  unfold dictSetDefault
  try with_reducible refine wpAny_holding ?_
  refine wpAny_bind (knd.pyHash hu hkey ?_)
  refine wpAny_bind (wpAny_dictFind_heap (s := { s with toks := s.toks + knd.draws k }) hu hkey ho hd he his hn ?_ ?_)
  · intro hno
    have hnot : k ∉ xs.map (·.1) := not_mem_keys_of_get hno
    refine wpAny_bind (wpAny_rule (wpAny_bind (wpAny_updateDictKeys (hz := by have e := size_of_entries he; omega) (s := { s with toks := s.toks + knd.draws k }) ho hd (wpAny_pure (hQ (atKey_none_of_get hno) _ ⟨_, _, ep + 1, Heap.get?_update_self _ ho (Obj.isFreed_of_dict (Obj.data_mapDictKeys hd _)),
      hc.mapDictKeys _, Obj.data_mapDictKeys hd _, ?_, ?_, ?_⟩ (Heap.SameBut.update ..))))))
    · simp [he, entryOfKey]
    · intro x hx
      rcases List.mem_append.mp hx with hx | hx
      · exact knd.keeps (his x hx) ho hd (Heap.SameBut.update ..)
      · simp only [List.mem_singleton] at hx
        subst hx
        exact knd.keeps hkey ho hd (Heap.SameBut.update ..)
    · rw [List.map_append, List.nodup_append]
      refine ⟨hn, by simp, ?_⟩
      intro x hx y hy
      simp only [List.map_cons, List.map_nil, List.mem_singleton] at hy
      subst hy
      exact fun e => hnot (e ▸ hx)
  · intro j p hj
    have hp := atKey_of_get hn hj
    refine wpAny_bind (wpAny_dictEntries (s := { s with toks := s.toks + knd.draws k }) ho hd ?_)
    rw [entry_at he j, hj]
    first | exact wpAny_bind (wpAny_rule (wpAny_pure (h1 p hp))) | exact wpAny_bind (wpAny_pure (h1 p hp)) | (show wpAny _ _ (do rule _; return _) _ _ _; exact wpAny_bind (wpAny_rule (wpAny_pure (h1 p hp))))
theorem setdefault_heap {dflt : Value} {Q : Value → Shared → Prop} (hu : knd.room A.in1) (hkey : knd.is s.heap k a) (lo : (d == sysModules) = false) (hm : s.heap.DictOfH knd d xs) (hsz : xs.length ≤ sizeLine)
    (h1 : ∀ p, atKey xs k = some p → Q p.2 { s with toks := s.toks + knd.draws k })
    (hQ : atKey xs k = none → ∀ h', h'.DictOfH knd d (xs ++ [(k, a, dflt)]) → Heap.SameBut d s.heap h' → Q dflt { s with heap := h', toks := s.toks + knd.draws k }) :
    wpAny (model prog w) A (call (.builtin "dict.setdefault") [.ref d, .ref a, dflt]) Q E s := by
  refine wpAny_call_entry PySem.F.slot_dict_setdefault hm.typeIs PySem.F.entry_dict_setdefault ?_ (PySem.F.args_dict_setdefault_3 _ _ _)
  unfold Builtin.«dict.setdefault»
  refine wpAny_bind ?_
  unfold Builtin.Dict.keyAndDefault
  refine wpAny_bind (wpAny_notOrdered_dict hm.typeIs ?_)
  show wpAny _ _ (pure (d, Value.ref a, some dflt)) _ _ s
  refine wpAny_pure ?_
  show wpAny _ _ (if (d == sysModules) = true then _ else (dictSetDefault d (.ref a) dflt >>= _)) _ _ s
  rw [if_neg (by rw [lo]; exact Bool.false_ne_true)]
  exact wpAny_bind (dictSetDefault_heap hu hkey hm hsz (fun p hp => wpAny_pure ⟨_, rfl, h1 p hp⟩) fun hn h' hm' hs' => wpAny_pure ⟨dflt, rfl, hQ hn h' hm' hs'⟩)
end

/-! ### clauses in the ledger, and the dict of their places -/
noncomputable abbrev Clause := List Lit
noncomputable abbrev tupOb (its : Array Value) (k : Nat) : Obj := { cls := .type "tuple", dict := none, data := .seq its k }
noncomputable def ClIn (news : List (Addr × Obj)) (c : Clause) (a : Addr) : Prop := ∃ qs n, (a, tupOb (refs qs).toArray n) ∈ news ∧ qs.map (·.1) = c ∧ ∀ q ∈ qs, LitIn news q.1 q.2
theorem ClIn.mono {nw nw' : List (Addr × Obj)} {c : Clause} {a : Addr} (h : ClIn nw c a) (sub : ∀ p ∈ nw, p ∈ nw') : ClIn nw' c a := let ⟨qs, n, q, e, l⟩ := h; ⟨qs, n, sub _ q, e, fun q hq => (l q hq).mono sub⟩
noncomputable abbrev clK (c : Clause) : List (List Atom) := c.map litK
theorem clK_inj : ∀ {a b : Clause}, clK a = clK b → a = b
  | [], [], _ => rfl
  | x :: a, y :: b, h => by
    simp only [clK, List.map_cons, List.cons.injEq] at h
    rw [litK_inj h.1, clK_inj h.2]
  | [], _ :: _, h => by simp [clK] at h
  | _ :: _, [], h => by simp [clK] at h
section
variable {prog : Program} {w : World} {A : Around} {E : Value → Shared → Prop} {s : Shared} {h₀ h : Heap} {L a pd : Addr} {m : Str → Option Value} {news : List (Addr × Obj)} {c : Clause}
theorem refsAre_of (N : News h₀ L h news) : ∀ {qs : List (Lit × Addr)}, (∀ q ∈ qs, LitIn news q.1 q.2) → RefsAre prog w h (clK (qs.map (·.1))) (refs qs)
  | [], _ => trivial
  | q :: qs, hq => ⟨⟨q.2, rfl, (hq q List.mem_cons_self).key N⟩, refsAre_of N fun z hz => hq z (List.mem_cons_of_mem _ hz)⟩
theorem ClIn.is (hc : ClIn news c a) (N : News h₀ L h news) : (clKind prog w).is h (clK c) a := by
  refine hide_goal fun kHide => ?_
  obtain ⟨qs, n, hm, rfl, hq⟩ := hc
  refine kHide ?_
  clear kHide
  exact ⟨_, _, _, (N _ hm).1, rfl, rfl, refsAre_of N hq⟩
noncomputable abbrev Places := List (Clause × Addr × Value)
noncomputable abbrev plK (xs : Places) : List (List (List Atom) × Addr × Value) := xs.map fun x => (clK x.1, x.2.1, x.2.2)
/-- the object of the dict of places -/
noncomputable def PlacesO (prog : Program) (w : World) (o : Obj) (xs : Places) : Prop :=
  ∃ es ep, o.ExactDict ∧ o.data = .dict es ep ∧ es.toList = (plK xs).map (entryOfKey (clKind prog w)) ∧ ((plK xs).map (·.1)).Nodup
theorem PlacesO.at {o : Obj} {xs : Places} (ho : PlacesO prog w o xs) (N : News h₀ L h news) (hm : (pd, o) ∈ news) (hx : ∀ x ∈ xs, ClIn news x.1 x.2.1) : h.DictOfH (clKind prog w) pd (plK xs) := by
  refine hide_goal fun kHide => ?_
  obtain ⟨es, ep, h1, h2, h3, h4⟩ := ho
  refine kHide ?_
  clear kHide
  refine ⟨o, es, ep, (N _ hm).1, h1, h2, h3, fun x hx' => ?_, h4⟩
  refine hide_goal fun kHide => ?_
  obtain ⟨y, hy, rfl⟩ := List.mem_map.mp hx'
  refine kHide ?_
  clear kHide
  exact (hx y hy).is N
theorem atKey_some {xs : Places} {p : Addr × Value} (h : atKey (plK xs) (clK c) = some p) : ∃ x ∈ xs, x.1 = c ∧ x.2 = p := by
  unfold atKey at h
  rw [Option.map_eq_some_iff] at h
  refine hide_goal fun kHide => ?_
  obtain ⟨y, hy, rfl⟩ := h
  refine kHide ?_
  clear kHide
  have h1 := List.mem_of_find?_eq_some hy
  have h2 := List.find?_some hy
  refine hide_goal fun kHide => ?_
  obtain ⟨x, hx, rfl⟩ := List.mem_map.mp h1
  refine kHide ?_
  clear kHide
  exact ⟨x, hx, clK_inj (of_decide_eq_true h2), rfl⟩
theorem atKey_none {xs : Places} (h : atKey (plK xs) (clK c) = none) : ∀ x ∈ xs, x.1 ≠ c := by
  unfold atKey at h
  rw [Option.map_eq_none_iff, List.find?_eq_none] at h
  intro x hx e
  exact h (clK x.1, x.2.1, x.2.2) (List.mem_map_of_mem (f := fun x : Clause × Addr × Value => (clK x.1, x.2.1, x.2.2)) hx) (by simp [e])
theorem units_in1' (A : Around) : A.in1.units = A.units + 1 := rfl
theorem in_places {o : Obj} {xs : Places} {Q : Value → Shared → Prop} (hu : A.units + 2 < cLine) (N : News h₀ L s.heap news) (hm : (pd, o) ∈ news) (lo : (pd == sysModules) = false) (ho : PlacesO prog w o xs) (hx : ∀ x ∈ xs, ClIn news x.1 x.2.1) (hc : ClIn news c a)
    (h : Q (.bool (decide (∃ x ∈ xs, x.1 = c))) { s with toks := s.toks + draws2 (clK c) }) : wpAny (model prog w) A (compareOp .In (.ref a) (.ref pd)) Q E s := by
  refine wpAny_in_heap (knd := clKind prog w) (show A.in1.units + 1 < cLine by rw [units_in1']; omega) (hc.is N) lo (ho.at N hm hx) ?_
  have e : (atKey (plK xs) (clK c)).isSome = decide (∃ x ∈ xs, x.1 = c) := by
    cases hk : atKey (plK xs) (clK c) with
    | none => have := atKey_none hk; symm; simp only [Option.isSome_none, decide_eq_false_iff_not]; rintro ⟨x, hx, e⟩; exact this x hx e
    | some p => obtain ⟨x, hx, e, _⟩ := atKey_some hk; symm; simp only [Option.isSome_some, decide_eq_true_eq]; exact ⟨x, hx, e⟩
  rw [e]
  exact h
theorem get_places {value slice : PySem.Expr} {o : Obj} {xs : Places} {Q : Value → Shared → Prop} (hu : A.units + 2 < cLine) (N : News h₀ L s.heap news) (hm : (pd, o) ∈ news) (ho : PlacesO prog w o xs) (hx : ∀ x ∈ xs, ClIn news x.1 x.2.1) (hc : ClIn news c a)
    (hin : ∃ x ∈ xs, x.1 = c) (h : ∀ x ∈ xs, x.1 = c → Q x.2.2 { s with toks := s.toks + draws2 (clK c) })
    (hs : subscripted slice false (.ref pd) (.ref a) = operate [.ref pd, .ref a] (getItem (.ref pd) (.ref a)) := by with_unfolding_all rfl) : wpAny (model prog w) A (subscriptTail value slice (.ref pd) (.ref a)) Q E s := by
  have hD := ho.at N hm hx
  refine tail_any hD.typeIs PySem.F.slot_dict_getitem.lookup ?_ hs
  cases hk : atKey (plK xs) (clK c) with
  | none => obtain ⟨x, hx, e⟩ := hin; exact absurd e (atKey_none hk x hx)
  | some p =>
    refine hide_goal fun kHide => ?_
    obtain ⟨x, hx', e, e2⟩ := atKey_some hk
    refine kHide ?_
    clear kHide
    exact wpAny_getItem_heap (knd := clKind prog w) (show A.in1.units + 1 < cLine by rw [units_in1']; omega) (hc.is N) hD hk (by rw [← e2]; exact h x hx' e)
theorem setdef_places {o : Obj} {xs : Places} {g : Obj → List (Addr × Obj)} {dflt : Value} {Q : Value → Shared → Prop} (hu : A.units + 2 < cLine) (F : Fr h₀ L s.heap m) (N : News h₀ L s.heap news) (U : UpdF pd o news g) (lo : (pd == sysModules) = false) (ho : PlacesO prog w o xs) (hsz : xs.length ≤ sizeLine) (hx : ∀ x ∈ xs, ClIn news x.1 x.2.1) (hc : ClIn news c a)
    (h1 : ∀ x ∈ xs, x.1 = c → Q x.2.2 { s with toks := s.toks + draws2 (clK c) })
    (h2 : (∀ x ∈ xs, x.1 ≠ c) → ∀ h' o', Fr h₀ L h' m → News h₀ L h' (g o') → PlacesO prog w o' (xs ++ [(c, a, dflt)]) → Q dflt { s with heap := h', toks := s.toks + draws2 (clK c) }) :
    wpAny (model prog w) A (call (.builtin "dict.setdefault") [.ref pd, .ref a, dflt]) Q E s := by
  refine hide_goal fun kHide => ?_
  obtain ⟨pre, post, rfl, hg, ha, hb⟩ := U.split
  refine kHide ?_
  clear kHide
  have hm := N (pd, o) (List.mem_append_right _ (.head _))
  refine setdefault_heap (knd := clKind prog w) (show A.in1.units + 1 < cLine by rw [units_in1']; omega) (hc.is N) lo (ho.at N (List.mem_append_right _ (.head _)) hx) (by simpa [plK] using hsz) (fun p hp => ?_) fun hn h' hD hs => ?_
  · refine hide_goal fun kHide => ?_
    obtain ⟨x, hx', e, e2⟩ := atKey_some hp
    refine kHide ?_
    clear kHide
    rw [← e2]; exact h1 x hx' e
  · refine hide_goal fun kHide => ?_
    obtain ⟨o', es, ep, ho', h3, h4, h5, _, h6⟩ := hD
    refine kHide ?_
    clear kHide
    have ep' : plK xs ++ [(clK c, a, dflt)] = plK (xs ++ [(c, a, dflt)]) := by simp [plK]
    rw [ep'] at h5 h6
    exact h2 (atKey_none hn) h' o' (F.change hs hm.2.1 hm.2.2) (hg o' ▸ N.setIn ha hb hs ho') ⟨es, ep, h3, h4, h5, h6⟩
end
end Mine
end

section
set_option maxRecDepth 100000
set_option maxHeartbeats 8000000
open PySem PySem.W PySem.Calls PyProof.Rows
namespace Mine
/- The head. Its constants are taken as they stand: a name that is held keeps the quick copies (one for each constant, thirteen megabytes in all) out of the file. -/
theorem Ahead.tw10002770257902413042 : True := trivial
theorem Ahead.tw1003711185918496318 : True := trivial
theorem Ahead.tw10212310457220558159 : True := trivial
theorem Ahead.tw10243291097924519995 : True := trivial
theorem Ahead.tw10324903374563544997 : True := trivial
theorem Ahead.tw10439914387887911228 : True := trivial
theorem Ahead.tw10528742267189487008 : True := trivial
theorem Ahead.tw10580532169637515217 : True := trivial
theorem Ahead.tw10652742324748653272 : True := trivial
theorem Ahead.tw10777728447117966954 : True := trivial
theorem Ahead.tw11102652962093138142 : True := trivial
theorem Ahead.tw11130329777350190749 : True := trivial
theorem Ahead.tw11173002135835641483 : True := trivial
theorem Ahead.tw11181335017306215015 : True := trivial
theorem Ahead.tw11239788721139026002 : True := trivial
theorem Ahead.tw11268293098181302588 : True := trivial
theorem Ahead.tw11308921391204920551 : True := trivial
theorem Ahead.tw11392611073433073868 : True := trivial
theorem Ahead.tw11413818130025459543 : True := trivial
theorem Ahead.tw11497568467587319415 : True := trivial
theorem Ahead.tw11516874085946443207 : True := trivial
theorem Ahead.tw11605727701059615035 : True := trivial
theorem Ahead.tw11877237062722419816 : True := trivial
theorem Ahead.tw11883978078682671525 : True := trivial
theorem Ahead.tw11890385417700022676 : True := trivial
theorem Ahead.tw12042349594012083371 : True := trivial
theorem Ahead.tw12089283556453153086 : True := trivial
theorem Ahead.tw12100842180667197807 : True := trivial
theorem Ahead.tw1223920074322744827 : True := trivial
theorem Ahead.tw12253960497080663738 : True := trivial
theorem Ahead.tw12371390244662851599 : True := trivial
theorem Ahead.tw1241992920302562266 : True := trivial
theorem Ahead.tw1261808022222796477 : True := trivial
theorem Ahead.tw126334884138137053 : True := trivial
theorem Ahead.tw1275001753544579360 : True := trivial
theorem Ahead.tw12761532444915637962 : True := trivial
theorem Ahead.tw12797838581380216643 : True := trivial
theorem Ahead.tw12844384207530194722 : True := trivial
theorem Ahead.tw1327651488151036561 : True := trivial
theorem Ahead.tw13289088566547551296 : True := trivial
theorem Ahead.tw13339480859031471537 : True := trivial
theorem Ahead.tw13569356987055640205 : True := trivial
theorem Ahead.tw13580855833985058408 : True := trivial
theorem Ahead.tw13595541954546602011 : True := trivial
theorem Ahead.tw13852876677634284898 : True := trivial
theorem Ahead.tw14093533331468228041 : True := trivial
theorem Ahead.tw14100362402112443358 : True := trivial
theorem Ahead.tw14105804165795559904 : True := trivial
theorem Ahead.tw14143665512936200534 : True := trivial
theorem Ahead.tw14161614706971422137 : True := trivial
theorem Ahead.tw14450256660555544213 : True := trivial
theorem Ahead.tw14469170908466340512 : True := trivial
theorem Ahead.tw14578845699056938665 : True := trivial
theorem Ahead.tw14757670934037876667 : True := trivial
theorem Ahead.tw1484129483841700774 : True := trivial
theorem Ahead.tw14961674586873647289 : True := trivial
theorem Ahead.tw1501891147610577478 : True := trivial
theorem Ahead.tw15022586314816451239 : True := trivial
theorem Ahead.tw15158588749072889143 : True := trivial
theorem Ahead.tw15279740846131282612 : True := trivial
theorem Ahead.tw15354893704266470329 : True := trivial
theorem Ahead.tw15473793196428365991 : True := trivial
theorem Ahead.tw15499637384941588359 : True := trivial
theorem Ahead.tw155720362047784334 : True := trivial
theorem Ahead.tw15682044643218383656 : True := trivial
theorem Ahead.tw15721424928513189680 : True := trivial
theorem Ahead.tw15727771015696939926 : True := trivial
theorem Ahead.tw15804980903516948939 : True := trivial
theorem Ahead.tw15834569567814772624 : True := trivial
theorem Ahead.tw16155824909308461493 : True := trivial
theorem Ahead.tw1626811952123536681 : True := trivial
theorem Ahead.tw16272956799449401934 : True := trivial
theorem Ahead.tw16501294730858606824 : True := trivial
theorem Ahead.tw1651982093242114940 : True := trivial
theorem Ahead.tw16522742835237000386 : True := trivial
theorem Ahead.tw16564101961713623757 : True := trivial
theorem Ahead.tw16610384266294934728 : True := trivial
theorem Ahead.tw16628001635836306897 : True := trivial
theorem Ahead.tw16641607447775441399 : True := trivial
theorem Ahead.tw16731931924389877685 : True := trivial
theorem Ahead.tw1708704415570878586 : True := trivial
theorem Ahead.tw172348116706132132 : True := trivial
theorem Ahead.tw17266381574063839992 : True := trivial
theorem Ahead.tw17401660729149132170 : True := trivial
theorem Ahead.tw17441315466234584435 : True := trivial
theorem Ahead.tw17463316925593850606 : True := trivial
theorem Ahead.tw17542199476026201963 : True := trivial
theorem Ahead.tw175771019392097104 : True := trivial
theorem Ahead.tw17645345330216369138 : True := trivial
theorem Ahead.tw17949370270757353857 : True := trivial
theorem Ahead.tw17969398021913368227 : True := trivial
theorem Ahead.tw17975331348910889930 : True := trivial
theorem Ahead.tw18057027023872827628 : True := trivial
theorem Ahead.tw18381022216391667849 : True := trivial
theorem Ahead.tw18410953106491008034 : True := trivial
theorem Ahead.tw1948843465361362543 : True := trivial
theorem Ahead.tw2133626504504066406 : True := trivial
theorem Ahead.tw2158044733756704288 : True := trivial
theorem Ahead.tw2211223602995544959 : True := trivial
theorem Ahead.tw2318887552043059184 : True := trivial
theorem Ahead.tw2349747592094243762 : True := trivial
theorem Ahead.tw235078849592951401 : True := trivial
theorem Ahead.tw2500380383030522245 : True := trivial
theorem Ahead.tw2560457430894638022 : True := trivial
theorem Ahead.tw2609245729789520544 : True := trivial
theorem Ahead.tw2646020658230104859 : True := trivial
theorem Ahead.tw281388182144453882 : True := trivial
theorem Ahead.tw2879706025769878927 : True := trivial
theorem Ahead.tw2896191181062615615 : True := trivial
theorem Ahead.tw2907598477858562109 : True := trivial
theorem Ahead.tw2970886218393415750 : True := trivial
theorem Ahead.tw3049300796903603426 : True := trivial
theorem Ahead.tw3067914839028123956 : True := trivial
theorem Ahead.tw3090145003413882534 : True := trivial
theorem Ahead.tw3188833556885279195 : True := trivial
theorem Ahead.tw326402231966805389 : True := trivial
theorem Ahead.tw3377808138098383291 : True := trivial
theorem Ahead.tw3423747280531647431 : True := trivial
theorem Ahead.tw3520498880725013785 : True := trivial
theorem Ahead.tw3597782520854775189 : True := trivial
theorem Ahead.tw3639615800477119978 : True := trivial
theorem Ahead.tw3658508684410751706 : True := trivial
theorem Ahead.tw3693437071075118081 : True := trivial
theorem Ahead.tw4001579317293589987 : True := trivial
theorem Ahead.tw4452186847657740177 : True := trivial
theorem Ahead.tw4617014968341396670 : True := trivial
theorem Ahead.tw4685287105945630326 : True := trivial
theorem Ahead.tw4746613273865396894 : True := trivial
theorem Ahead.tw4795098915505880919 : True := trivial
theorem Ahead.tw4902016085364593937 : True := trivial
theorem Ahead.tw4911761191613035496 : True := trivial
theorem Ahead.tw5019504393038429593 : True := trivial
theorem Ahead.tw5047349865100797173 : True := trivial
theorem Ahead.tw5101128782891349272 : True := trivial
theorem Ahead.tw5458730092361267490 : True := trivial
theorem Ahead.tw5494877043901040867 : True := trivial
theorem Ahead.tw5718922008081608178 : True := trivial
theorem Ahead.tw5781638917629503387 : True := trivial
theorem Ahead.tw6047987680323134997 : True := trivial
theorem Ahead.tw6125556299296614903 : True := trivial
theorem Ahead.tw6203618931299762896 : True := trivial
theorem Ahead.tw6244744398114263320 : True := trivial
theorem Ahead.tw625203209167427926 : True := trivial
theorem Ahead.tw6288905427801804449 : True := trivial
theorem Ahead.tw6299499933300116035 : True := trivial
theorem Ahead.tw637027109521153866 : True := trivial
theorem Ahead.tw6420299571406104955 : True := trivial
theorem Ahead.tw6421364669970698530 : True := trivial
theorem Ahead.tw6525672697619983529 : True := trivial
theorem Ahead.tw6586251477827274331 : True := trivial
theorem Ahead.tw6600109338113969407 : True := trivial
theorem Ahead.tw6627227011373338275 : True := trivial
theorem Ahead.tw6689492700995418444 : True := trivial
theorem Ahead.tw6968641449841082745 : True := trivial
theorem Ahead.tw7050330319696836472 : True := trivial
theorem Ahead.tw7091002723595267210 : True := trivial
theorem Ahead.tw724491923427530869 : True := trivial
theorem Ahead.tw7292179801835659429 : True := trivial
theorem Ahead.tw7389975329069457622 : True := trivial
theorem Ahead.tw7422345733610373912 : True := trivial
theorem Ahead.tw7426137565604213481 : True := trivial
theorem Ahead.tw7594198540256209716 : True := trivial
theorem Ahead.tw7649475523389069409 : True := trivial
theorem Ahead.tw7896250422068112323 : True := trivial
theorem Ahead.tw7910376089462330656 : True := trivial
theorem Ahead.tw7949844858258703393 : True := trivial
theorem Ahead.tw8004465596439439380 : True := trivial
theorem Ahead.tw8013862147693097143 : True := trivial
theorem Ahead.tw8177966744255651415 : True := trivial
theorem Ahead.tw824712178104562702 : True := trivial
theorem Ahead.tw8288594271826529369 : True := trivial
theorem Ahead.tw8333408453294284216 : True := trivial
theorem Ahead.tw8368257597514303204 : True := trivial
theorem Ahead.tw83870086202406287 : True := trivial
theorem Ahead.tw856965970502297836 : True := trivial
theorem Ahead.tw8718937042607559517 : True := trivial
theorem Ahead.tw8779528548537648294 : True := trivial
theorem Ahead.tw8798804452812775681 : True := trivial
theorem Ahead.tw894474695983348204 : True := trivial
theorem Ahead.tw9234582227642461735 : True := trivial
theorem Ahead.tw9320100946594838290 : True := trivial
theorem Ahead.tw9354130960274612339 : True := trivial
theorem Ahead.tw9441905121379401405 : True := trivial
theorem Ahead.tw9460075488799173220 : True := trivial
theorem Ahead.tw9471254787993023388 : True := trivial
theorem Ahead.tw9746353581115026559 : True := trivial
theorem Ahead.tw9834850862258464592 : True := trivial
theorem Ahead.tw985452160149502459 : True := trivial
theorem Ahead.tw9861063493395410256 : True := trivial
set_option Elab.async true in
theorem Ahead : ∃ T : Prop, T → PySem.Challenge.rw_qd0004_01.Holds := by
  apply Exists.intro
  intro h
  w_on
  o_law
  refine' (And.intro ?w2 (?hc : type_of% h)).1
  case w2 =>
    k_head
    case hw => w_witness2
  exact h
end Mine
end

section
local macro_rules | `(tactic| k_room) => `(tactic| ((try simp only [PyProof.Rows.depth_under_make, PySem.W.depth_under_kw, PySem.W.depth_in1, PyProof.Rows.depth_deeper, PySem.Around.deeper, PySem.Around.in1]); first | (with_reducible exact Mine.room_1) | (with_reducible exact Mine.room_0) | (with_reducible exact Mine.room_z) | omega))

section
set_option maxRecDepth 100000
set_option maxHeartbeats 8000000
open PySem PySem.W PySem.Calls PyProof.Rows
namespace Mine
theorem fresh_W1 : True := by
  w_top off
  trivial
noncomputable abbrev PR : Program := PySem.Challenge.rw_qd0004_01.row.prog

/-- the ground that every call stands on -/
structure Gr (w : World) (A₀ : Around) (base h₀ : Heap) (outer : List Env) (mean : ExcName → Option Value) (mg mb : Str → Option Value) : Prop where
  B : Below A₀ base outer h₀
  X : (Ahead.heap_1_39 w.params).In h₀
  T : Top Ahead.view_1_40 (looseW Ahead.view_1_40 []) mean mg mb h₀
/-- the caller's surroundings -/
structure Ar (d u : Nat) (A : Around) (env : Env) (outer : List Env) (L : Addr) : Prop where
  hd : A.handled = none
  fr : A.frames = some (env :: outer)
  dp : A.depth + d < recursionLimit
  un : A.units + u < cLine
  lo : env.frame = some L
  ki : env.scope.kind = .function

noncomputable def TapeD (prog : Program) (w : World) (o : Obj) (cl : Addr) (sp : Int) : Prop := ∃ ts, o.IsDictOf (PySem.strKind prog w) [(Str.ofString "cells", .ref cl), (Str.ofString "spot", .int sp ts)]

section
variable {w : World} {A₀ A : Around} {base h₀ : Heap} {outer : List Env} {env : Env} {L : Addr} {m mg mb : Str → Option Value} {mean : ExcName → Option Value} {E : Value → Shared → Prop} {s : Shared} {news : List (Addr × Obj)}

theorem take_core {tp cl : Addr} {o : Obj} {sp wide : Int} {wt : Tok} {cs : List Value} {ns : List Int} {nc : Nat} {tl : List (Addr × Obj)} {Q : Value → Shared → Prop}
    (G : Gr w A₀ base h₀ outer mean mg mb) (a : Ar 20 50 A env outer L) (F : Fr h₀ L s.heap m) (N : News h₀ L s.heap ((tp, o) :: (cl, listOf cs.toArray nc) :: tl))
    (off : OwnOff tl [tp]) (hne : @Ne Nat cl tp) (ho : TapeD PR w o cl sp) (hi : IntsAre cs ns) (hn : ns.length ≤ 63) (h0 : 0 ≤ sp) (h1 : sp ≤ 1000000) (hw : 1 ≤ wide) (hw2 : wide ≤ 1000)
    (h : ∀ n t h' tk o', 0 ≤ n → n < wide → Fr h₀ L h' m → News h₀ L h' ((tp, o') :: (cl, listOf cs.toArray nc) :: tl) → TapeD PR w o' cl (sp + 1) → Q (.int n t) { s with heap := h', toks := tk }) :
    wpAny (model PR w) A (call (.ref 160) [.ref tp, .int wide wt]) Q E s := by
  obtain ⟨hd, dp, fr, gs, u⟩ := A
  obtain ⟨⟨kd, nm, ig, ic, mo⟩, lc, gl, ce, ql, fu, co, frm, bt⟩ := env
  refine hide_goal fun kHide => ?_
  obtain ⟨rfl, rfl, hdp, hun, hlo, hki⟩ := a
  refine kHide ?_
  clear kHide
  dsimp only at hlo hki
  subst hlo hki
  refine hide_goal fun kHide => ?_
  obtain ⟨B, X, T⟩ := G
  obtain ⟨ts, ho⟩ := ho
  refine kHide ?_
  clear kHide
  have fill : (∀ P : Params, Ahead.heap_1_39 P = Ahead.heap_1_39 P) ∧ PySem.Challenge.rw_qd0004_01 = PySem.Challenge.rw_qd0004_01 := by
    k_fill
    exact ⟨fun _ => rfl, rfl⟩
  clear fill
  dsimp only at hdp hun
  refine wpAny_call ?_
  k_enter
  k_steps
  all_goals refine h _ _ _ _ _ (Int.fmod_nonneg_of_pos _ (by omega)) (Int.fmod_lt_of_pos _ (by omega)) (by assumption) (by assumption) ⟨_, by assumption⟩

theorem UpdF.far {d : Addr} {o : Obj} {l : List (Addr × Obj)} {g : Obj → List (Addr × Obj)} (U : UpdF d o l g) : (d, o) ∈ l ∧ ∃ tl, OwnOff tl [d] ∧ (∀ p ∈ l, p = (d, o) ∨ p ∈ tl) ∧ (∀ p ∈ tl, p ∈ l) ∧ ∀ o', ∀ p ∈ g o', p = (d, o') ∨ p ∈ tl := by
  refine hide_goal fun kHide => ?_
  obtain ⟨pre, post, rfl, hg, h1, h2⟩ := U.split
  refine kHide ?_
  clear kHide
  refine ⟨List.mem_append_right _ (List.mem_cons_self ..), pre ++ post, fun p hp b hb => ?_, fun p hp => ?_, fun p hp => ?_, fun o' p hp => ?_⟩
  · rcases List.mem_singleton.mp hb with rfl
    rcases List.mem_append.mp hp with hp | hp
    · exact h1 p hp
    · exact h2 p hp
  · rcases List.mem_append.mp hp with hp | hp
    · exact .inr (List.mem_append_left _ hp)
    · rcases List.mem_cons.mp hp with rfl | hp
      · exact .inl rfl
      · exact .inr (List.mem_append_right _ hp)
  · rcases List.mem_append.mp hp with hp | hp
    · exact List.mem_append_left _ hp
    · exact List.mem_append_right _ (List.mem_cons_of_mem _ hp)
  · rw [hg] at hp
    rcases List.mem_append.mp hp with hp | hp
    · exact .inr (List.mem_append_left _ hp)
    · rcases List.mem_cons.mp hp with rfl | hp
      · exact .inl rfl
      · exact .inr (List.mem_append_right _ hp)

theorem tape_ne {prog : Program} {h : Heap} {tp cl : Addr} {o : Obj} {sp : Int} {cs : Array Value} {nc : Nat} (N : News h₀ L h news) (hm : (tp, o) ∈ news) (hc : (cl, listOf cs nc) ∈ news) (ho : TapeD prog w o cl sp) : cl ≠ tp := N.twoPlaces hc hm (by
    intro e
    refine hide_goal fun kHide => ?_
    obtain ⟨ts, es, ep, _, hd, _⟩ := ho
    refine kHide ?_
    clear kHide
    rw [← show listOf cs nc = o from e] at hd
    cases hd)
theorem allLt_mem {d : Addr} {l : List (Addr × Obj)} (h : AllLt d l) (p : Addr × Obj) (hp : p ∈ l) : p.1 < d := by
  induction l with
  | nil => cases hp
  | cons q r ih =>
    rcases List.mem_cons.mp hp with e | hp
    · rw [e]; exact h.1
    · exact ih h.2 hp
theorem take_K {tp cl : Addr} {o : Obj} {sp wide : Int} {wt : Tok} {cs : List Value} {ns : List Int} {nc : Nat} {news : List (Addr × Obj)} {g : Obj → List (Addr × Obj)} {Q : Value → Shared → Prop}
    (G : Gr w A₀ base h₀ outer mean mg mb) (a : Ar 20 50 A env outer L) (F : Fr h₀ L s.heap m) (N : News h₀ L s.heap news) (hc : (cl, listOf cs.toArray nc) ∈ news)
    (U : UpdF tp o news g) (ho : TapeD PR w o cl sp) (hi : IntsAre cs ns) (hn : ns.length ≤ 63) (h0 : 0 ≤ sp) (h1 : sp ≤ 1000000) (hw : 1 ≤ wide) (hw2 : wide ≤ 1000)
    (h : ∀ n t h' tk o', 0 ≤ n → n < wide → Fr h₀ L h' m → News h₀ L h' (g o') → TapeD PR w o' cl (sp + 1) → Q (.int n t) { s with heap := h', toks := tk }) :
    wpAny (model PR w) A (call (.ref 160) [.ref tp, .int wide wt]) Q E s := by
  refine hide_goal fun kHide => ?_
  obtain ⟨hm, tl, off, h₁, h₂, h₃⟩ := UpdF.far U
  refine kHide ?_
  clear kHide
  have hne : cl ≠ tp := tape_ne N hm hc ho
  refine take_core (tl := tl) (cs := cs) (nc := nc) G a F (N.perm ?_) off hne ho hi hn h0 h1 hw hw2 fun n t h' tk o' x1 x2 F' N' D' => h n t h' tk o' x1 x2 F' (N'.perm fun p hp => ?_) D'
  · intro p hp
    rcases List.mem_cons.mp hp with rfl | hp
    · exact hm
    · rcases List.mem_cons.mp hp with rfl | hp
      · exact hc
      · exact h₂ p hp
  · rcases h₃ o' p hp with rfl | hp
    · exact List.mem_cons_self ..
    · exact List.mem_cons_of_mem _ (List.mem_cons_of_mem _ hp)
end
end Mine
end

section
set_option maxRecDepth 100000
set_option maxHeartbeats 8000000
open PySem PySem.W PySem.Calls PyProof.Rows
namespace Mine
theorem fresh_W2 : True := by
  w_top off
  trivial
section
variable {w : World} {A₀ A : Around} {base h₀ : Heap} {outer : List Env} {env : Env} {L : Addr} {m mg mb : Str → Option Value} {mean : ExcName → Option Value} {E : Value → Shared → Prop} {s : Shared} {news : List (Addr × Obj)}
local macro_rules | `(tactic| k_all) => `(tactic| (with_reducible refine OwnOff.ne (by assumption) ?_; k_mem))
local macro_rules | `(tactic| walk_at "call ref") => `(tactic| (k_here; (with_reducible show wpAny _ _ (call (Value.ref 160) _) _ _ _); k_dflt (refine take_K ⟨by assumption, by assumption, by assumption⟩ ⟨rfl, rfl, by k_room, by k_room, rfl, rfl⟩ (by assumption) (by assumption) (by k_mem) (by k_updF) (by assumption) (by assumption) (by assumption) (by omega) (by omega) (by omega) (by omega) ?_); intro n t h' tk o' hn0 hn1 F' N' D'))

noncomputable def signs : List Str := [Str.ofString "<=", Str.ofString ">=", Str.ofString "=", Str.ofString "!="]
theorem tupAt {prog : Program} {value slice : PySem.Expr} {t : Addr} {items : Array Value} {n : Nat} {k : Int} {u : Tok} {Q : Value → Shared → Prop} (N : News h₀ L s.heap news) (hm : (t, { cls := .type "tuple", dict := none, data := .seq items n }) ∈ news)
    (h0 : 0 ≤ k) (h1 : k < items.size) (h2 : k < 2 ^ 63) (h : ∀ v, items[k.toNat]? = some v → Q v s)
    (hs : subscripted slice false (.ref t) (.int k u) = operate [.ref t, .int k u] (getItem (.ref t) (.int k u)) := by with_unfolding_all rfl) :
    wpAny (model prog w) A (subscriptTail value slice (.ref t) (.int k u)) Q E s := by
  have ht : IsTup s.heap t items := N.isTup hm
  have hlt : k.toNat < items.size := by omega
  exact tail_any ht.typeIs slot_tuple_getitem.lookup (getItem_tuple ht (by omega) h2 (seqIndex_of h0 h1) (x := items[k.toNat]) (by simp [hlt]) (h _ (by simp [hlt]))) hs
theorem signAt {prog : Program} {value slice : PySem.Expr} {t : Addr} {n : Nat} {k : Int} {u : Tok} {t1 t2 t3 t4 : Tok} {Q : Value → Shared → Prop} (N : News h₀ L s.heap news)
    (hm : (t, { cls := .type "tuple", dict := none, data := .seq #[.str (Str.ofString "<=") t1, .str (Str.ofString ">=") t2, .str (Str.ofString "=") t3, .str (Str.ofString "!=") t4] n }) ∈ news)
    (h0 : 0 ≤ k) (h1 : k < 4) (h : ∀ sg t, sg ∈ signs → Q (.str sg t) s)
    (hs : subscripted slice false (.ref t) (.int k u) = operate [.ref t, .int k u] (getItem (.ref t) (.int k u)) := by with_unfolding_all rfl) :
    wpAny (model prog w) A (subscriptTail value slice (.ref t) (.int k u)) Q E s := by
  refine tupAt N hm h0 h1 (by omega) (fun v hv => ?_) hs
  obtain rfl | rfl | rfl | rfl : k = 0 ∨ k = 1 ∨ k = 2 ∨ k = 3 := by omega
  all_goals (cases hv; refine h _ _ ?_; simp [signs])
local macro_rules | `(tactic| walk_at "subscriptTail") => `(tactic| (k_here; (with_reducible show wpAny _ _ (subscriptTail _ _ (Value.ref _) (Value.int _ _)) _ _ _); k_dflt (refine signAt (by assumption) (by k_mem) (by assumption) (by assumption) ?_); intro sg tsg hsg))

theorem news_skip {g h : Heap} {a b : Addr × Obj} {l : List (Addr × Obj)} (N : News g L h (a :: b :: l)) : News g L h (a :: l) := N.perm fun p hp => by
  rcases List.mem_cons.mp hp with rfl | hp
  · exact List.mem_cons_self ..
  · exact List.mem_cons_of_mem _ (List.mem_cons_of_mem _ hp)
noncomputable abbrev litO (x : Int) (sg : Str) (k : Int) (t1 t2 t3 : Tok) (n : Nat) : Obj := { cls := .type "tuple", dict := none, data := .seq #[.int x t1, .str sg t2, .int k t3] n }
theorem lit_core {tp cl : Addr} {o : Obj} {sp : Int} {cs : List Value} {ns : List Int} {nc : Nat} {tl : List (Addr × Obj)} {Q : Value → Shared → Prop}
    (G : Gr w A₀ base h₀ outer mean mg mb) (a : Ar 22 60 A env outer L) (F : Fr h₀ L s.heap m) (N : News h₀ L s.heap ((tp, o) :: (cl, listOf cs.toArray nc) :: tl))
    (off : OwnOff tl [tp]) (hne : @Ne Nat cl tp) (ho : TapeD PR w o cl sp) (hi : IntsAre cs ns) (hn : ns.length ≤ 63) (h0 : 0 ≤ sp) (h1 : sp ≤ 100000)
    (h : ∀ r x sg k t1 t2 t3 n h' tk o', 0 ≤ x → x < 2 → sg ∈ signs → 0 ≤ k → k < 2 → Fr h₀ L h' m → News h₀ L h' ((r, litO x sg k t1 t2 t3 n) :: (tp, o') :: (cl, listOf cs.toArray nc) :: tl) → AllLt r ((tp, o) :: (cl, listOf cs.toArray nc) :: tl) → TapeD PR w o' cl (sp + 1 + 1 + 1) → Q (.ref r) { s with heap := h', toks := tk }) :
    wpAny (model PR w) A (call (.ref 167) [.ref tp]) Q E s := by
  obtain ⟨hd, dp, fr, gs, u⟩ := A
  obtain ⟨⟨kd, nm, ig, ic, mo⟩, lc, gl, ce, ql, fu, co, frm, bt⟩ := env
  refine hide_goal fun kHide => ?_
  obtain ⟨rfl, rfl, hdp, hun, hlo, hki⟩ := a
  refine kHide ?_
  clear kHide
  dsimp only at hlo hki
  subst hlo hki
  refine hide_goal fun kHide => ?_
  obtain ⟨B, X, T⟩ := G
  refine kHide ?_
  clear kHide
  have fill : (∀ P : Params, Ahead.heap_1_39 P = Ahead.heap_1_39 P) ∧ PySem.Challenge.rw_qd0004_01 = PySem.Challenge.rw_qd0004_01 := by
    k_fill
    exact ⟨fun _ => rfl, rfl⟩
  clear fill
  dsimp only at hdp hun
  refine wpAny_call ?_
  k_enter
  k_steps
  rename News _ _ _ _ => kN
  refine h _ _ _ _ _ _ _ _ _ _ _ (by assumption) (by assumption) (by assumption) (by assumption) (by assumption) (by assumption) (news_skip kN) ?_ (by assumption)
  · rename _ ∧ _ ∧ _ ∧ _ => hq
    exact hq.2
end
end Mine
end

section
set_option maxRecDepth 100000
set_option maxHeartbeats 8000000
open PySem PySem.W PySem.Calls PyProof.Rows
namespace Mine
theorem fresh_W3 : True := by
  w_top off
  trivial
section
variable {w : World} {A₀ A : Around} {base h₀ : Heap} {outer : List Env} {env : Env} {L : Addr} {m mg mb : Str → Option Value} {mean : ExcName → Option Value} {E : Value → Shared → Prop} {s : Shared} {news : List (Addr × Obj)}
local macro_rules | `(tactic| k_all) => `(tactic| (with_reducible refine OwnOff.ne (by assumption) ?_; k_mem))
noncomputable def negL (l : Lit) : Lit :=
  if l.2.1 = Str.ofString "<=" then (l.1, Str.ofString ">=", l.2.2 + 1) else if l.2.1 = Str.ofString ">=" then (l.1, Str.ofString "<=", l.2.2 - 1)
  else if l.2.1 = Str.ofString "=" then (l.1, Str.ofString "!=", l.2.2) else (l.1, Str.ofString "=", l.2.2)

theorem negL_le (x k : Int) : negL (x, Str.ofString "<=", k) = (x, Str.ofString ">=", k + 1) := if_pos rfl
theorem negL_ge (x k : Int) : negL (x, Str.ofString ">=", k) = (x, Str.ofString "<=", k - 1) := (if_neg (show ¬ Str.ofString ">=" = Str.ofString "<=" by decide)).trans (if_pos rfl)
theorem negL_eq (x k : Int) : negL (x, Str.ofString "=", k) = (x, Str.ofString "!=", k) := (if_neg (show ¬ Str.ofString "=" = Str.ofString "<=" by decide)).trans ((if_neg (show ¬ Str.ofString "=" = Str.ofString ">=" by decide)).trans (if_pos rfl))
theorem negL_ne (x k : Int) : negL (x, Str.ofString "!=", k) = (x, Str.ofString "=", k) := (if_neg (show ¬ Str.ofString "!=" = Str.ofString "<=" by decide)).trans ((if_neg (show ¬ Str.ofString "!=" = Str.ofString ">=" by decide)).trans (if_neg (show ¬ Str.ofString "!=" = Str.ofString "=" by decide)))
theorem neg_core {a : Addr} {x k : Int} {sg : Str} {t1 t2 t3 : Tok} {n : Nat} {tl : List (Addr × Obj)} {Q : Value → Shared → Prop}
    (G : Gr w A₀ base h₀ outer mean mg mb) (a0 : Ar 20 50 A env outer L) (F : Fr h₀ L s.heap m) (N : News h₀ L s.heap ((a, litO x sg k t1 t2 t3 n) :: tl)) (hs : sg ∈ signs)
    (h : ∀ r sg' k' u1 u2 u3 n' h' tk, (x, sg', k') = negL (x, sg, k) → Fr h₀ L h' m → News h₀ L h' ((r, litO x sg' k' u1 u2 u3 n') :: (a, litO x sg k t1 t2 t3 n) :: tl) → AllLt r ((a, litO x sg k t1 t2 t3 n) :: tl) → Q (.ref r) { s with heap := h', toks := tk }) :
    wpAny (model PR w) A (call (.ref 21) [.ref a]) Q E s := by
  obtain ⟨hd, dp, fr, gs, u⟩ := A
  obtain ⟨⟨kd, nm, ig, ic, mo⟩, lc, gl, ce, ql, fu, co, frm, bt⟩ := env
  refine hide_goal fun kHide => ?_
  obtain ⟨rfl, rfl, hdp, hun, hlo, hki⟩ := a0
  refine kHide ?_
  clear kHide
  dsimp only at hlo hki
  subst hlo hki
  refine hide_goal fun kHide => ?_
  obtain ⟨B, X, T⟩ := G
  refine kHide ?_
  clear kHide
  have fill : (∀ P : Params, Ahead.heap_1_39 P = Ahead.heap_1_39 P) ∧ PySem.Challenge.rw_qd0004_01 = PySem.Challenge.rw_qd0004_01 := by
    k_fill
    exact ⟨fun _ => rfl, rfl⟩
  clear fill
  dsimp only at hdp hun
  simp only [signs, List.mem_cons, List.not_mem_nil, or_false] at hs
  rcases hs with rfl | rfl | rfl | rfl
  all_goals (refine wpAny_call ?_; k_enter; k_steps)
  all_goals (rename News _ _ _ _ => kN)
  · exact h _ _ _ _ _ _ _ _ _ (negL_le x k).symm (by assumption) kN (by assumption)
  · exact h _ _ _ _ _ _ _ _ _ (negL_ge x k).symm (by assumption) kN (by assumption)
  · exact h _ _ _ _ _ _ _ _ _ (negL_eq x k).symm (by assumption) kN (by assumption)
  · exact h _ _ _ _ _ _ _ _ _ (negL_ne x k).symm (by assumption) kN (by assumption)
theorem neg_K {a : Addr} {x k : Int} {sg : Str} {t1 t2 t3 : Tok} {n : Nat} {Q : Value → Shared → Prop}
    (G : Gr w A₀ base h₀ outer mean mg mb) (a0 : Ar 20 50 A env outer L) (F : Fr h₀ L s.heap m) (N : News h₀ L s.heap news) (ha : (a, litO x sg k t1 t2 t3 n) ∈ news) (hs : sg ∈ signs)
    (h : ∀ r sg' k' u1 u2 u3 n' h' tk, (x, sg', k') = negL (x, sg, k) → Fr h₀ L h' m → News h₀ L h' ((r, litO x sg' k' u1 u2 u3 n') :: news) → (∀ p ∈ news, p.1 < r) → Q (.ref r) { s with heap := h', toks := tk }) :
    wpAny (model PR w) A (call (.ref 21) [.ref a]) Q E s := by
  refine neg_core (tl := news) (t1 := t1) (t2 := t2) (t3 := t3) (n := n) G a0 F (N.perm ?_) hs fun r sg' k' t1 t2 t3 n' h' tk e F' N' l' => h r sg' k' t1 t2 t3 n' h' tk e F' (N'.perm fun p hp => ?_) fun p hp => allLt_mem l' p (List.mem_cons_of_mem _ hp)
  · intro p hp
    rcases List.mem_cons.mp hp with rfl | hp
    · exact ha
    · exact hp
  · rcases List.mem_cons.mp hp with rfl | hp
    · exact List.mem_cons_self ..
    · exact List.mem_cons_of_mem _ (List.mem_cons_of_mem _ hp)
end
end Mine
end

section
set_option maxRecDepth 100000
set_option maxHeartbeats 2000000
open PySem PySem.W PySem.Calls PySem.Spec PyProof.Rows PyProof.Rows.LCg
namespace Mine
theorem fresh_C1 : True := by
  w_top off
  trivial
section
variable {prog : Program} {w : World} {A : Around} {E : Value → Shared → Prop} {s : Shared} {h₀ : Heap} {L : Addr} {m : Str → Option Value} {env : Env}
noncomputable abbrev tupO (its : Array Value) (k : Nat) : Obj := { cls := .type "tuple", dict := none, data := .seq its k }
noncomputable def SrcTup (prog : Program) (w : World) (A : Around) (h₀ : Heap) (L : Addr) (m : Str → Option Value) (env : Env) (elt : Expr) (x : Str) (scope : Scope) (cl : List (Str × Addr)) (Fin : Shared → List Value → List (Addr × Obj) → Prop) (xv : Value) (s₁ : Shared) : Prop :=
  ∃ ax its k news, xv = .ref ax ∧ A.handled = none ∧ Fr h₀ L s₁.heap m ∧ News h₀ L s₁.heap news ∧ (ax, tupO its k) ∈ news ∧ its.size ≤ sizeLine ∧
    ∀ s₂ : Shared, (∃ h, s₂ = { s₁ with heap := h }) → CompRest prog w A h₀ L m env elt x scope cl s₂ (fun nw => (ax, tupO its k) ∈ nw) (fun i v => its[i]? = some v) (Fin s₂) its.size 0 [] news
theorem tup_st {ax I : Addr} {its : Array Value} {k : Nat} : ∀ i (h h' : Heap) (o : Obj) (nw : List (Addr × Obj)), (h.IsTupleIter I ax i ∧ h.IsTuple ax its) → h.get? I = some o → h'.get? I = some o → (∀ b o, h₀.get? b = some o → h'.get? b = some o) → News h₀ L h' nw → (ax, tupO its k) ∈ nw → (h'.IsTupleIter I ax i ∧ h'.IsTuple ax its) :=
  fun i h h' o nw st e e' _ N hm => ⟨st.1.at fun o' e2 => by rw [e] at e2; cases e2; exact e', ⟨_, (N _ hm).1, rfl, k, rfl⟩⟩
theorem Assign_ListComp_tup {elt iter : Expr} {x y : Str} {px py : Pos} {scope : Scope} {cl : List (Str × Addr)} {pos spos : Pos} {Q : Flow → Shared → Prop} (F₀ : Fr h₀ L s.heap m) (hLe : env.locals = L)
    (hsw : swapsWith (.ListComp elt [⟨.Name x px, iter, [], 0⟩] scope pos) (some (.Name y py)) spos.line env = pure true)
    (hclos : closureFor scope env = pure cl) (hcell : ∀ z ∈ scope.names, z.2 ≠ .cell) (hkind : scope.kind = .function)
    (hnames : ∀ z ∈ scope.names, z.2 = .local → scope.names.lookup z.1 = some .local) (hx : scope.names.lookup x = some .local)
    (hy : env.kindOf y = some .local) (hp : (env.scope.kind == .class || (env.scope.kind == .module && env.locals != env.globals)) = false)
    (h : wpAny (model prog w) A (eval iter env) (SrcTup prog w A h₀ L m env elt x scope cl (fun s₂ => FinA h₀ L m s₂ y Q)) E s)
    (hs : ∀ x, foldedSetIterable iter env x = pure x := by intro _; rfl) :
    wpAny (model prog w) A (exec (.Assign [.Name y py] (.ListComp elt [⟨.Name x px, iter, [], 0⟩] scope pos) spos) env) Q E s := by
  subst hLe
  rw [exec_Assign_Name_used _ _ _ _ hsw]
  refine wpAny_bind (wpAny_standAt (wpAny_bind ?_))
  show wpAny _ A (do let _ ← comprehension (.ListComp elt [⟨.Name x px, iter, [], 0⟩] scope pos) scope env _ (newList []) false (eval iter env) (some (assign (.Name y py) env))) _ _ s
  refine wpAny_bind (wpAny_mono (wpAny_comprehension_free (use := some (assign (.Name y py) env)) (Q := fun _ s' => Q .next s') rfl hs hclos hkind hnames
    (wpAny_mono h (fun xv s₁ h₁ => ?_) fun _ _ e => e)) (fun _ s' hq => wpAny_pure (wpAny_pure hq)) fun _ _ e => e)
  refine hide_goal fun kHide => ?_
  obtain ⟨ax, its, k, news, rfl, hh, F, N, S, hsz, R⟩ := h₁
  refine kHide ?_
  clear kHide
  have hl : s₁.heap.IsTuple ax its := ⟨_, (N _ S).1, rfl, k, rfl⟩
  have hlt : ax < s₁.heap.objs.size := Heap.lt_size (N _ S).1
  refine wpAny_pyIter_tuple hl ?_
  have up : ∀ b o, s₁.heap.get? b = some o → (s₁.heap.push { cls := .type "tuple_iterator", data := .fields #[.ref ax, .int 0 0] }).get? b = some o := fun b o e => Heap.get?_push_of_some _ e
  refine block_U (Walks.tuple hh s₁.heap.objs.size ax (Nat.ne_of_lt hlt) its) hsz (fun i h st => by obtain ⟨o, e, _⟩ := st.1; exact ⟨o, e⟩) tup_st hcell hkind hx ⟨⟨_, Heap.get?_push_size _ rfl, rfl, rfl⟩, hl.push _⟩ (fun b hb => ?_)
    (F.keeps up) (N.grown up) (Nat.ne_of_lt F.ns.lt) (next_is_new F) (fun p hp => Nat.ne_of_lt (Heap.lt_size (N p hp).1)) S (R _ ⟨_, rfl⟩) ?_
  · show b < (s₁.heap.push _).objs.size
    rw [Heap.size_push]
    rcases List.mem_cons.mp hb with rfl | hb
    · exact Nat.lt_succ_self _
    · rw [List.mem_singleton.mp hb]; exact Nat.lt_succ_of_lt hlt
  · intro D C h' tk m' ys news' F' N' o1 hn hC₀ hD₀ hCL hDL hCD offC fin
    show wpAny _ A (assign (.Name y py) env (.ref D)) _ _ _
    refine wpAny_assign_Name (wpAny_storeName_local hy F'.ns (fun h₂ hn₂ hs₂ => ?_) hp)
    have hL₀ : h₀.get? env.locals = none := Heap.get?_none_of_le F'.above
    have F₂ : Fr h₀ env.locals h₂ (fun z => if z = y then some (.ref D) else m z) := ⟨hn₂, fun b o e => hs₂.extBut b o (fun q => by rw [q, hL₀] at e; cases e) (F'.keep b o e), F'.above⟩
    refine ⟨m', hn.sameBut hs₂ hCL, fun h'' hs'' => fin D h'' _ (F₂.change hs'' hCL hC₀) (fun p hp => ?_) o1⟩
    have z : h₂.get? p.1 = some p.2 := hs₂.extBut _ _ (N' p hp).2.1 (N' p hp).1
    refine ⟨hs''.extBut _ _ ?_ z, (N' p hp).2⟩
    rcases List.mem_cons.mp hp with rfl | hp
    · exact Ne.symm hCD
    · exact offC p hp

/-- how a turn ends -/
noncomputable def TurnEnd (h₀ : Heap) (L : Addr) (m : Str → Option Value) (s : Shared) (I : Addr) (oI : Obj) (C : Addr) (oC : Obj) (D : Addr) (oD : Obj) (G : List (Addr × Obj) → Prop) (news : List (Addr × Obj)) (R : List (Addr × Obj) → Value → Prop) (y : Value) (s₂ : Shared) : Prop :=
  ∃ h' tk' new, s₂ = { s with heap := h', toks := tk' } ∧ Fr h₀ L h' m ∧ News h₀ L h' ((I, oI) :: (C, oC) :: (D, oD) :: new) ∧ Off3 I C D new ∧ G new ∧ (∀ p ∈ news, p ∈ new) ∧ R new y
/-- turn by turn: what is true of every item's answer -/
theorem rest_map {elt : Expr} {x : Str} {scope : Scope} {cl : List (Str × Addr)} {S : List (Addr × Obj) → Prop} {P : Nat → Value → Prop} {Fin : List Value → List (Addr × Obj) → Prop} (R : List (Addr × Obj) → Nat → Value → Prop) (K : List (Addr × Obj) → Prop)
    (mono : ∀ nw nw' i y, (∀ p ∈ nw, p ∈ nw') → R nw i y → R nw' i y)
    (n : Nat) (turn : ∀ i ys news v I oI C oC D m₂ h tk (E' : Value → Shared → Prop), i < n → K news → S news → P i v → NsObj oC m₂ → m₂ x = some v → Fr h₀ L h m → News h₀ L h ((I, oI) :: (C, oC) :: (D, lst ys) :: news) → Off3 I C D news → ((@Ne Nat I C) ∧ (@Ne Nat I D) ∧ (@Ne Nat C D)) →
      wpAny (model prog w) A (eval elt (compEnvC scope cl C env)) (TurnEnd h₀ L m s I oI C oC D (lst ys) (fun new => S new ∧ K new) news (fun new y => R new i y)) E' { s with heap := h, toks := tk })
    (fin : ∀ ys news, K news → ys.length = n → (∀ i y, ys[i]? = some y → R news i y) → Fin ys news) :
    ∀ k i ys news, i + k = n → K news → S news → ys.length = i → (∀ j y, ys[j]? = some y → R news j y) → CompRest prog w A h₀ L m env elt x scope cl s S P Fin k i ys news := by
  intro k
  induction k with
  | zero => intro i ys news e hK _ hl hr; exact fin ys news hK (hl.trans e) hr
  | succ k ih =>
    intro i ys news e hK hS hl hr
    intro v I oI C oC D m₂ h tk E' hP hC hx F N off ne
    refine wpAny_mono (turn i ys news v I oI C oC D m₂ h tk E' (by omega) hK hS hP hC hx F N off ne) (fun y s₂ hy => ?_) fun _ _ e => e
    refine hide_goal fun kHide => ?_
    obtain ⟨h', tk', new, rfl, F', N', off', ⟨hS', hK'⟩, sub, hR⟩ := hy
    refine kHide ?_
    clear kHide
    refine ⟨h', tk', new, rfl, F', N', off', hS', ih (i + 1) (ys ++ [y]) new (by omega) hK' hS' (by simp [hl]) fun j z hz => ?_⟩
    by_cases hj : j < ys.length
    · rw [List.getElem?_append_left hj] at hz
      exact mono _ _ _ _ sub (hr j z hz)
    · rw [List.getElem?_append_right (by omega)] at hz
      have hj' : j - ys.length = 0 := by
        rcases Nat.eq_zero_or_pos (j - ys.length) with q | q
        · exact q
        · rw [List.getElem?_eq_none (by simp; omega)] at hz; cases hz
      rw [hj'] at hz
      simp only [List.length_cons, List.length_nil, List.getElem?_cons_zero, Option.some.injEq] at hz
      subst hz
      have : j = i := by omega
      subst this
      exact hR
end
end Mine
end

section
set_option maxRecDepth 100000
set_option maxHeartbeats 2000000
open PySem PySem.W PySem.Calls PySem.Spec PyProof.Rows PyProof.Rows.LCg PyProof.Rows.LCt
namespace Mine
theorem fresh_C2 : True := by
  w_top off
  trivial
theorem ints_snoc {vs : List Value} {ns : List Int} (h : IntsAre vs ns) (n : Int) (t : Tok) : IntsAre (vs ++ [.int n t]) (ns ++ [n]) := by
  induction h with
  | nil => exact .cons n t .nil
  | cons a b _ ih => exact .cons a b ih
section
variable {prog : Program} {w : World} {A : Around} {E : Value → Shared → Prop} {s : Shared} {h₀ : Heap} {L : Addr} {m : Str → Option Value} {env : Env}
/-- how a test ends -/
noncomputable def TestEnd (h₀ : Heap) (L : Addr) (m : Str → Option Value) (s : Shared) (led : List (Addr × Obj)) (b : Bool) (ok : Bool) (s' : Shared) : Prop :=
  ok = b ∧ ∃ h' tk', s' = { s with heap := h', toks := tk' } ∧ Fr h₀ L h' m ∧ News h₀ L h' led
theorem restT_filter {ct : Expr} {x : Str} {px : Pos} {scope : Scope} {cl : List (Str × Addr)} {Fin : List Value → List (Addr × Obj) → Prop} {news : List (Addr × Obj)} (sat : Int → Bool) (a₀ : Int) (n : Nat)
    (turn : ∀ (i : Nat) ys I oI C oC D m₂ h tk t (E' : Value → Shared → Prop), i < n → NsObj oC m₂ → m₂ x = some (.int (a₀ + (i : Int)) t) → Fr h₀ L h m → News h₀ L h ((I, oI) :: (C, oC) :: (D, lst ys) :: news) → Off3 I C D news → ((@Ne Nat I C) ∧ (@Ne Nat I D) ∧ (@Ne Nat C D)) →
      wpAny (model prog w) A (isTrue ct (compEnvC scope cl C env) (eval ct (compEnvC scope cl C env))) (TestEnd h₀ L m s ((I, oI) :: (C, oC) :: (D, lst ys) :: news) (sat (a₀ + (i : Int)))) E' { s with heap := h, toks := tk })
    (hk : scope.kind = .function) (hl : ∀ C, (compEnvC scope cl C env).kindOf x = some .local) (hd : (x == ("__debug__" : Str)) = false)
    (fin : ∀ ys, IntsAre ys (((List.range n).map fun (i : Nat) => a₀ + (i : Int)).filter sat) → Fin ys news) :
    ∀ k i ys, i + k = n → IntsAre ys (((List.range i).map fun (i : Nat) => a₀ + (i : Int)).filter sat) → CompRestT prog w A h₀ L m env ct (.Name x px) x scope cl s (fun _ => True) (fun i v => ∃ t, v = .int (a₀ + (i : Int)) t) Fin k i ys news := by
  intro k
  induction k with
  | zero => intro i ys e hi; exact fin ys (by rw [← show i = n from e]; exact hi)
  | succ k ih =>
    intro i ys e hi
    rintro v I oI C oC D m₂ h tk E' ⟨t, rfl⟩ hC hx F N off ne
    have step : ((List.range (i + 1)).map fun (i : Nat) => a₀ + (i : Int)).filter sat = ((List.range i).map fun (i : Nat) => a₀ + (i : Int)).filter sat ++ if sat (a₀ + (i : Int)) then [a₀ + (i : Int)] else [] := by
      rw [List.range_succ, List.map_append, List.filter_append]
      simp [List.filter_cons]
    refine wpAny_mono (turn i ys I oI C oC D m₂ h tk t E' (by omega) hC hx F N off ne) (fun ok s' hs' => ?_) fun _ _ e => e
    refine hide_goal fun kHide => ?_
    obtain ⟨rfl, h', tk', rfl, F', N'⟩ := hs'
    refine kHide ?_
    clear kHide
    cases hb : sat (a₀ + (i : Int)) with
    | true =>
      rw [hb] at step
      simp only [if_true] at step ⊢
      refine LCgL.ld_own N' (List.mem_cons_of_mem _ (List.mem_cons_self ..)) hC hx ?_ hk (hl C) hd
      exact ⟨h', tk', news, rfl, F', N', off, trivial, ih (i + 1) _ (by omega) (by rw [step]; exact ints_snoc hi _ _)⟩
    | false =>
      rw [hb] at step
      simp only [Bool.false_eq_true, if_false, List.append_nil] at step ⊢
      exact ⟨h', tk', news, rfl, F', N', off, trivial, ih (i + 1) _ (by omega) (by rw [step]; exact hi)⟩
end
end Mine
end

section
set_option maxRecDepth 100000
set_option maxHeartbeats 8000000
open PySem PySem.W PySem.Calls PyProof.Rows
namespace Mine
theorem fresh_W4 : True := by
  w_top off
  trivial
section
variable {w : World} {A₀ A : Around} {base h₀ : Heap} {outer : List Env} {env : Env} {L : Addr} {m mg mb : Str → Option Value} {mean : ExcName → Option Value} {E : Value → Shared → Prop} {s : Shared} {news : List (Addr × Obj)}
local macro_rules | `(tactic| k_mem) => `(tactic| assumption)
local macro_rules | `(tactic| walk_at "exec Assign cons ListComp") => `(tactic| (k_here; lcg_look; lcg_calm; k_dflt (refine Assign_ListComp_tup (F₀ := by k_asm) (by rfl) (by with_unfolding_all rfl) (by rfl) (by decide) (by rfl) (by decide) (by rfl) (by rfl) (by rfl) ?_)))

local macro_rules | `(tactic| walk_at "call ref") => `(tactic| (k_here; (with_reducible show wpAny _ _ (call (Value.ref 21) _) _ _ _); k_dflt (refine neg_K ⟨by assumption, by assumption, by assumption⟩ ⟨rfl, rfl, by k_room, by k_room, rfl, rfl⟩ (by assumption) (by assumption) (by k_mem) (by assumption) ?_); intro r' sg' k' u1' u2' u3' n' h' tk' hneg' F' N' l1'))

local macro_rules | `(tactic| walk_at "call builtin:list.append") => `(tactic| (k_here; (with_reducible show wpAny _ _ (call (Value.builtin _) [Value.ref _, _]) _ _ _); k_dflt (refine append_K (by assumption) (by assumption) (Upd.head (by assumption)) ?_ (by assumption)); intro h' F' N'))
theorem off1_mem {D : Addr} {l : List (Addr × Obj)} (h : LCg.Off1 D l) : ∀ p ∈ l, p.1 ≠ D := by
  induction l with
  | nil => intro p hp; cases hp
  | cons q r ih =>
    intro p hp
    rcases List.mem_cons.mp hp with rfl | hp
    · exact h.1
    · exact ih h.2 p hp
theorem setLits_mono {prog : Program} {nw nw' : List (Addr × Obj)} {o : Obj} {ls : List Lit} (h : SetLits prog w nw o ls) (sub : ∀ p ∈ nw, p ∈ nw') : SetLits prog w nw' o ls := by
  refine hide_goal fun kHide => ?_
  obtain ⟨Z, ep, fi, mo, plain, e, h1, h2, h3, h4, h5⟩ := h
  refine kHide ?_
  clear kHide
  exact ⟨Z, ep, fi, mo, plain, e, h1, h2, h3, fun z hz => let ⟨l, e, n, t1, t2, t3, q⟩ := h4 z hz; ⟨l, e, n, t1, t2, t3, sub _ q⟩, h5⟩
theorem ys_refs {nw : List (Addr × Obj)} (f : Lit → Lit) : ∀ (qs : List (Lit × Addr)) (ys : List Value), ys.length = qs.length → (∀ (i : Nat) (y : Value), ys[i]? = some y → ∃ (q : Lit × Addr) (a' : Addr), qs[i]? = some q ∧ y = Value.ref a' ∧ LitIn nw (f q.1) a') →
    ∃ qs2 : List (Lit × Addr), ys = refs qs2 ∧ qs2.map (·.1) = qs.map (fun q => f q.1) ∧ ∀ q ∈ qs2, LitIn nw q.1 q.2 := by
  intro qs
  induction qs with
  | nil => intro ys hl _; exact ⟨[], List.length_eq_zero_iff.mp hl, rfl, fun q hq => nomatch hq⟩
  | cons q qs ih =>
    intro ys hl h
    cases ys with
    | nil => cases hl
    | cons y ys =>
    refine hide_goal fun kHide => ?_
    obtain ⟨qs2, e1, e2, e3⟩ := ih ys (Nat.succ.inj hl) fun i z hz => h (i + 1) z hz
    obtain ⟨q', a', h1, rfl, h2⟩ := h 0 y (by simp)
    refine kHide ?_
    clear kHide
    simp only [List.getElem?_cons_zero, Option.some.injEq] at h1
    subst h1
    refine ⟨(f q.1, a') :: qs2, by simp [refs, e1], by simp [e2], fun z hz => ?_⟩
    rcases List.mem_cons.mp hz with rfl | hz
    · exact h2
    · exact e3 z hz
theorem off3_new {I C D r : Addr} {o : Obj} {l : List (Addr × Obj)} (h : LCg.Off3 I C D l) (h1 : I < r) (h2 : C < r) (h3 : D < r) : LCg.Off3 I C D ((r, o) :: l) := LCg.Off3.of fun p hp => by
  rcases List.mem_cons.mp hp with rfl | hp
  · exact ⟨Nat.ne_of_gt h1, Nat.ne_of_gt h2, Nat.ne_of_gt h3⟩
  · exact h.mem p hp
theorem news_under {g h : Heap} {r : Addr × Obj} {a b c : Addr × Obj} {l : List (Addr × Obj)} (N : News g L h (r :: a :: b :: c :: l)) : News g L h (a :: b :: c :: r :: l) := N.perm fun p hp => by
  simp only [List.mem_cons] at hp ⊢
  rcases hp with h | h | h | h | h <;> simp [h]
theorem cof_core {rt : Addr} {qs ex : List (Lit × Addr)} {lv : Value} {n : Nat} {Q : Value → Shared → Prop}
    (G : Gr w A₀ base h₀ outer mean mg mb) (a0 : Ar 30 90 A env outer L) (F : Fr h₀ L s.heap m) (N : News h₀ L s.heap news) (hr : (rt, tupO (refs qs).toArray n) ∈ news) (hq : ∀ q ∈ qs, LitIn news q.1 q.2 ∧ q.1.2.1 ∈ signs) (hlen : qs.length ≤ 2) (hex : (ex = [] ∧ lv = .none) ∨ ∃ l la, ex = [(l, la)] ∧ lv = .ref la ∧ LitIn news l la)
    (h : ∀ D h' tk d qs' c new, Fr h₀ L h' m → News h₀ L h' ((D, tupO (refs qs').toArray c) :: (new ++ news)) → (∀ q ∈ new ++ news, q.1 < D) → qs'.map (·.1) = norm (qs.map (fun q => negL q.1) ++ ex.map (·.1)) → (∀ q ∈ qs', LitIn (new ++ news) q.1 q.2) → qs'.length ≤ 3 →
      Q (.ref D) { s with heap := h', toks := tk, drawn := d }) :
    wpAny (model PR w) A (call (.ref 83) [.ref rt, lv]) Q E s := by
  obtain ⟨hd, dp, fr, gs, u⟩ := A
  obtain ⟨⟨kd, nm, ig, ic, mo⟩, lc, gl, ce, ql, fu, co, frm, bt⟩ := env
  refine hide_goal fun kHide => ?_
  obtain ⟨rfl, rfl, hdp, hun, hlo, hki⟩ := a0
  refine kHide ?_
  clear kHide
  dsimp only at hlo hki
  subst hlo hki
  refine hide_goal fun kHide => ?_
  obtain ⟨B, X, T⟩ := G
  refine kHide ?_
  clear kHide
  have fill : (∀ P : Params, Ahead.heap_1_39 P = Ahead.heap_1_39 P) ∧ PySem.Challenge.rw_qd0004_01 = PySem.Challenge.rw_qd0004_01 := by
    k_fill
    exact ⟨fun _ => rfl, rfl⟩
  clear fill
  dsimp only at hdp hun
  refine wpAny_call ?_
  k_enter
  k_steps
  rename Fr _ _ _ _ => kF
  rename News _ _ _ _ => kN
  refine ⟨rt, _, n, news, rfl, rfl, kF, kN, hr, by simp [refs, sizeLine]; omega, ?_⟩
  rintro _ ⟨g1, rfl⟩
  refine rest_map (fun nw i y => ∃ q a', qs[i]? = some q ∧ y = .ref a' ∧ LitIn nw (negL q.1) a') (fun nw => ∃ new, nw = new ++ news) ?mono qs.length ?turn ?fin _ 0 [] news (by simp [refs]) ⟨[], rfl⟩ hr rfl (by simp)
  case mono =>
    rintro nw nw' i y sub ⟨q, a', h1, h2, n1, t1, t2, t3, h3⟩
    exact ⟨q, a', h1, h2, n1, t1, t2, t3, sub _ h3⟩
  case turn =>
    rintro i ys nw v I oI C oC D m₂ h₁ tk₁ E' hi ⟨new, rfl⟩ hS hP hC hx F1 N1 off ne
    simp only [refs, List.getElem?_toArray, List.getElem?_map, Option.map_eq_some_iff] at hP
    refine hide_goal fun kHide => ?_
    obtain ⟨q, hq1, rfl⟩ := hP
    obtain ⟨⟨n1, t1, t2, t3, hin⟩, hsg⟩ := hq q (List.mem_of_getElem? hq1)
    refine kHide ?_
    clear kHide
    have hin' : (q.2, litO q.1.1 q.1.2.1 q.1.2.2 t1 t2 t3 n1) ∈ new ++ news := List.mem_append_right _ hin
    k_steps
    rename ∀ (p : Addr × Obj), p ∈ _ :: _ :: _ :: _ → p.1 < _ => hlt
    rename News _ _ _ ((_, litO _ _ _ _ _ _ _) :: _) => N2
    have hlt' := fun p hp => hlt p hp
    refine ⟨_, _, _ :: (new ++ news), rfl, by assumption, news_under N2, off3_new off (hlt' (I, oI) (by simp)) (hlt' (C, oC) (by simp)) (hlt' (D, LCg.lst ys) (by simp)), ⟨List.mem_cons_of_mem _ hS, _ :: new, rfl⟩, fun p hp => List.mem_cons_of_mem _ hp, q, _, hq1, rfl, ?_⟩
    rename (q.1.1, _, _) = negL _ => hneg
    rw [← hneg]
    exact ⟨_, _, _, _, List.mem_cons_self ..⟩
  case fin =>
    rintro ys nw ⟨new, rfl⟩ hl hR
    refine hide_goal fun kHide => ?_
    obtain ⟨qs2, rfl, e2, e3⟩ := ys_refs negL qs ys hl hR
    refine kHide ?_
    clear kHide
    unfold LCg.FinA
    intro D' h' tk' F' N' o1'
    dsimp only
    have off : ∀ p ∈ new ++ news, p.1 ≠ D' := off1_mem o1'
    have hsz : (refs qs2).toArray.size ≤ sizeLine := by
      have := congrArg List.length e2
      simp only [List.length_map] at this
      simp [refs, sizeLine]; omega
    rcases hex with ⟨rfl, rfl⟩ | ⟨l, la, rfl, rfl, hl0⟩
    · k_steps
      rename Fr _ _ _ _ => kF2
      rename News _ _ _ _ => kN2
      have hpush : (refs qs2).toArray = (refs (qs2 ++ [])).toArray := by simp [refs]
      rw [LCg.lst, hpush] at kN2
      refine set_list (qs := qs2 ++ []) kF2 kN2 rfl (by k_room) (List.mem_cons_self ..) (fun q hq => ?_) (by have := congrArg List.length e2; simp only [List.length_map] at this; simp; omega) ?_
      · rcases List.mem_append.mp hq with hq | hq
        · refine hide_goal fun kHide => ?_
          obtain ⟨n1, t1, t2, t3, hin⟩ := e3 q hq
          refine kHide ?_
          clear kHide
          exact ⟨n1, t1, t2, t3, List.mem_cons_of_mem _ hin⟩
        · cases hq
      intro S oS h3 tk3 F3 N3 l3 hS
      dsimp only
      k_steps
      refine sorted_lits F3 N3 rfl (List.mem_cons_self ..) (setLits_mono hS fun p hp => List.mem_cons_of_mem _ hp) ?_
      intro D5 h5 tk5 d5 qs5 c5 F5 N5 l5 asc5 hin5 len5 mem5
      dsimp only
      k_steps
      refine kde_tupleOf F5 N5 (N5.isList (n := c5) (d := none) (sl := #[]) (List.mem_cons_self ..)) (by simp only [refs, List.size_toArray, List.length_map]; omega) rfl ?_
      intro D6 h6 F6 N6 l6
      dsimp only
      k_steps
      rename Fr h₀ _ _ _ => kF6
      rename News h₀ _ _ _ => kN6
      refine h D6 h6 tk5 d5 qs5 _ ((D5, _) :: (S, oS) :: (D', _) :: new) kF6 kN6 l6 ?_ (fun q hq => ?_) len5
      · refine norm_unique asc5 fun l' => (mem5 l').trans ?_
        rw [List.map_append, e2]
      · refine hide_goal fun kHide => ?_
        obtain ⟨n1, t1, t2, t3, hin⟩ := hin5 q hq
        refine kHide ?_
        clear kHide
        exact ⟨n1, t1, t2, t3, List.mem_cons_of_mem _ hin⟩
    · k_steps
      rename Fr _ _ _ _ => kF2
      rename News _ _ _ _ => kN2
      have hpush : (refs qs2).toArray.push (.ref la) = (refs (qs2 ++ [(l, la)])).toArray := by simp [refs]
      rw [hpush] at kN2
      refine set_list (qs := qs2 ++ [(l, la)]) kF2 kN2 rfl (by k_room) (List.mem_cons_self ..) (fun q hq => ?_) (by have := congrArg List.length e2; simp only [List.length_map] at this; simp; omega) ?_
      · rcases List.mem_append.mp hq with hq | hq
        · refine hide_goal fun kHide => ?_
          obtain ⟨n1, t1, t2, t3, hin⟩ := e3 q hq
          refine kHide ?_
          clear kHide
          exact ⟨n1, t1, t2, t3, List.mem_cons_of_mem _ hin⟩
        · rw [List.mem_singleton.mp hq]
          refine hide_goal fun kHide => ?_
          obtain ⟨n1, t1, t2, t3, hin⟩ := hl0
          refine kHide ?_
          clear kHide
          exact ⟨n1, t1, t2, t3, List.mem_cons_of_mem _ (List.mem_append_right _ hin)⟩
      intro S oS h3 tk3 F3 N3 l3 hS
      dsimp only
      k_steps
      refine sorted_lits F3 N3 rfl (List.mem_cons_self ..) (setLits_mono hS fun p hp => List.mem_cons_of_mem _ hp) ?_
      intro D5 h5 tk5 d5 qs5 c5 F5 N5 l5 asc5 hin5 len5 mem5
      dsimp only
      k_steps
      refine kde_tupleOf F5 N5 (N5.isList (n := c5) (d := none) (sl := #[]) (List.mem_cons_self ..)) (by simp only [refs, List.size_toArray, List.length_map]; omega) rfl ?_
      intro D6 h6 F6 N6 l6
      dsimp only
      k_steps
      rename Fr h₀ _ _ _ => kF6
      rename News h₀ _ _ _ => kN6
      refine h D6 h6 tk5 d5 qs5 _ ((D5, _) :: (S, oS) :: (D', _) :: new) kF6 kN6 l6 ?_ (fun q hq => ?_) len5
      · refine norm_unique asc5 fun l' => (mem5 l').trans ?_
        rw [List.map_append, e2]
      · refine hide_goal fun kHide => ?_
        obtain ⟨n1, t1, t2, t3, hin⟩ := hin5 q hq
        refine kHide ?_
        clear kHide
        exact ⟨n1, t1, t2, t3, List.mem_cons_of_mem _ hin⟩
end
end Mine
end

section
set_option maxRecDepth 100000
set_option maxHeartbeats 8000000
open PySem PySem.W PySem.Calls PyProof.Rows
namespace Mine
theorem fresh_W5 : True := by
  w_top off
  trivial
section
variable {w : World} {A₀ A : Around} {base h₀ : Heap} {outer : List Env} {env : Env} {L : Addr} {m mg mb : Str → Option Value} {mean : ExcName → Option Value} {E : Value → Shared → Prop} {s : Shared} {news : List (Addr × Obj)}
local macro_rules | `(tactic| walk_at "a pad") => `(tactic| fail)

noncomputable abbrev stepsS : Str := Str.ofString "steps"
noncomputable abbrev placesS : Str := Str.ofString "places"
noncomputable abbrev logD (w : World) (sl pd : Addr) (t1 t2 : Tok) : Obj := dictOf [{ hash := PyData.keyHash w.params (Str.ofString "steps"), key := .str (Str.ofString "steps") t1, val := .ref sl }, { hash := PyData.keyHash w.params (Str.ofString "places"), key := .str (Str.ofString "places") t2, val := .ref pd }] 2
theorem meth_places {prog : Program} {pd : Addr} {o : Obj} {xs : Places} {pl : Sem Bool} {Q : Value × List Value → Shared → Prop} (N : News h₀ L s.heap news) (hm : (pd, o) ∈ news) (ho : PlacesO prog w o xs) (h : Q (.builtin "dict.setdefault", [.ref pd]) s) :
    wpAny (model prog w) A (getMethod (.ref pd) (Str.ofString "setdefault") pl) Q E s := by
  refine hide_goal fun kHide => ?_
  obtain ⟨es, ep, ⟨h1, h2, h3⟩, _⟩ := ho
  refine kHide ?_
  clear kHide
  refine getMethod_builtin (T := "dict") ⟨o, (N _ hm).1, h1⟩ PySem.F.plainAttrs_dict PySem.F.slot_dict_setdefault PySem.F.type_dict_setdefault (fun b e => ?_) h
  cases e
  exact ⟨o, (N _ hm).1, h2⟩
theorem len_led {prog : Program} {l : Addr} {its : Array Value} {n : Nat} {Q : Value → Shared → Prop} (N : News h₀ L s.heap news) (hm : (l, listOf its n) ∈ news) (hz : its.size ≤ sizeLine) (h : ∀ t tk, Q (.int (its.size : Nat) t) { s with toks := tk }) :
    wpAny (model prog w) A (call (.builtin "len") [.ref l]) Q E s := by
  have hl : s.heap.IsList l its := N.isList (d := none) (sl := #[]) hm
  exact len_list hl (by rw [sizeLine_eq] at hz; omega) (h _ _)
/-- what a step of the log is made of -/
noncomputable abbrev stepO (rv : Value) (ca : Addr) (pv nv : Value) (n : Nat) : Obj := tupO #[rv, .ref ca, pv, nv] n

local macro_rules | `(tactic| k_all) => `(tactic| (with_reducible refine OwnOff.ne (by assumption) ?_; k_mem))
local macro_rules | `(tactic| walk_at "getMethod ref") => `(tactic| (k_here; (with_reducible show wpAny _ _ (getMethod (Value.ref _) (Str.ofString "setdefault") _) _ _ _); k_dflt (refine meth_places (by assumption) (by k_mem) (by assumption) ?_)))
local macro_rules | `(tactic| walk_at "call builtin:list.append") => `(tactic| (k_here; (with_reducible show wpAny _ _ (call (Value.builtin _) [Value.ref _, _]) _ _ _); k_dflt (refine append_K (by assumption) (by assumption) (by k_upd) ?_ (by assumption)); intro h' F' N'))

local macro_rules | `(tactic| walk_at "call builtin:len") => `(tactic| (k_here; (with_reducible show wpAny _ _ (call (Value.builtin "len") [Value.ref _]) _ _ _); k_dflt (refine len_led (by assumption) (by k_mem) (by first | assumption | (simp only [Array.size_push, List.size_toArray]; rw [sizeLine_eq]; omega)) ?_); intro tLen tkLen))
theorem push_list (steps : List Value) (v : Value) : steps.toArray.push v = (steps ++ [v]).toArray := by simp
theorem size_push_sub (steps : List Value) (v : Value) : (((steps.toArray.push v).size : Nat) : Int) - 1 = ((steps.length : Nat) : Int) := by simp
theorem add_core {lg ld sl pd ca : Addr} {t1 t2 : Tok} {steps : List Value} {n : Nat} {po : Obj} {xs : Places} {tl : List (Addr × Obj)} {rv pv nv : Value} {c : Clause} {Q : Value → Shared → Prop}
    (G : Gr w A₀ base h₀ outer mean mg mb) (a0 : Ar 30 90 A env outer L) (F : Fr h₀ L s.heap m) (N : News h₀ L s.heap ((lg, instObj 149 ld) :: (ld, logD w sl pd t1 t2) :: (sl, listOf steps.toArray n) :: (pd, po) :: tl))
    (off : OwnOff tl [sl, pd]) (hpl : PlacesO PR w po xs) (hxs : ∀ x ∈ xs, ClIn tl x.1 x.2.1) (hca : ClIn tl c ca) (hn : steps.length ≤ 100) (hxn : xs.length ≤ 100) (lo : (pd == sysModules) = false)
    (n1 : @Ne Nat lg sl) (n2 : @Ne Nat ld sl) (n3 : @Ne Nat pd sl) (n4 : @Ne Nat lg pd) (n5 : @Ne Nat ld pd)
    (h : ∀ st k t1' t3 h' tk po' xs', Fr h₀ L h' m → News h₀ L h' ((st, stepO rv ca pv nv k) :: (lg, instObj 149 ld) :: (ld, logD w sl pd t1 t2) :: (sl, listOf (steps ++ [Value.ref st]).toArray (n + 1)) :: (pd, po') :: tl) →
      AllLt st ((lg, instObj 149 ld) :: (ld, logD w sl pd t1 t2) :: (sl, listOf steps.toArray n) :: (pd, po) :: tl) → PlacesO PR w po' xs' →
      (((∃ x ∈ xs, x.1 = c) ∧ xs' = xs) ∨ ((∀ x ∈ xs, x.1 ≠ c) ∧ xs' = xs ++ [(c, ca, Value.int (steps.length : Nat) t3)])) → Q (.int (steps.length : Nat) t1') { s with heap := h', toks := tk }) :
    wpAny (model PR w) A (call (.ref 104) [.ref lg, rv, .ref ca, pv, nv]) Q E s := by
  obtain ⟨hd, dp, fr, gs, u⟩ := A
  obtain ⟨⟨kd, nm, ig, ic, mo⟩, lc, gl, ce, ql, fu, co, frm, bt⟩ := env
  refine hide_goal fun kHide => ?_
  obtain ⟨rfl, rfl, hdp, hun, hlo, hki⟩ := a0
  refine kHide ?_
  clear kHide
  dsimp only at hlo hki
  subst hlo hki
  refine hide_goal fun kHide => ?_
  obtain ⟨B, X, T⟩ := G
  refine kHide ?_
  clear kHide
  have fill : (∀ P : Params, Ahead.heap_1_39 P = Ahead.heap_1_39 P) ∧ PySem.Challenge.rw_qd0004_01 = PySem.Challenge.rw_qd0004_01 := by
    k_fill
    exact ⟨fun _ => rfl, rfl⟩
  clear fill
  dsimp only at hdp hun
  have hsz : steps.toArray.size ≤ sizeLine := by rw [sizeLine_eq, List.size_toArray]; omega
  refine wpAny_call ?_
  k_enter
  k_steps
  refine setdef_places (by k_room) (by assumption) (by assumption) (by k_updF) (by assumption) (by assumption) (by rw [sizeLine_eq]; omega) (fun x hx => (hxs x hx).mono (fun p hp => by repeat (first | exact hp | refine List.Mem.tail _ ?_))) (hca.mono (fun p hp => by repeat (first | exact hp | refine List.Mem.tail _ ?_))) ?_ ?_
  · intro x hx he
    dsimp only
    k_steps
    rename News h₀ _ _ _ => kN
    rw [push_list] at kN
    rw [size_push_sub]
    exact h _ _ _ 0 _ _ _ _ (by assumption) kN (by assumption) hpl (.inl ⟨⟨x, hx, he⟩, rfl⟩)
  · intro hno h5 po5 F5 N5 P5
    have P5' := P5
    rw [size_push_sub] at P5'
    dsimp only
    k_steps
    rename News h₀ _ _ _ => kN
    rw [push_list] at kN
    rw [size_push_sub]
    exact h _ _ _ _ _ _ _ _ (by assumption) kN (by assumption) P5' (.inr ⟨hno, rfl⟩)
end
end Mine
end

section
set_option maxRecDepth 100000
set_option maxHeartbeats 2000000
open PySem PySem.W PySem.Calls PyProof.Rows
namespace Mine
theorem fresh_W6 : True := by
  w_top off
  trivial
noncomputable abbrev Led := List (Addr × Obj)
/-- all but the entries at the addresses D is kept -/
noncomputable def Keep (D : List Addr) (nw nw' : Led) : Prop := ∀ p ∈ nw, p.1 ∉ D → p ∈ nw'
noncomputable def Tups (nw nw' : Led) : Prop := ∀ p ∈ nw, p.2.cls = .type "tuple" → p ∈ nw'
theorem Keep.trans {D D' D'' : List Addr} {a b c : Led} (h : Keep D a b) (k : Keep D' b c) (h1 : ∀ x ∈ D, x ∈ D'') (h2 : ∀ x ∈ D', x ∈ D'') : Keep D'' a c := fun p hp hn => k p (h p hp fun q => hn (h1 _ q)) fun q => hn (h2 _ q)
theorem Keep.of_sub {D : List Addr} {a b : Led} (h : ∀ p ∈ a, p ∈ b) : Keep D a b := fun p hp _ => h p hp
theorem Keep.refl (D : List Addr) (a : Led) : Keep D a a := fun _ hp _ => hp
theorem Keep.tups {D : List Addr} {a b : Led} {h₀ h : Heap} {L : Addr} (k : Keep D a b) (N : News h₀ L h a) (hd : ∀ x ∈ D, ∃ o, (x, o) ∈ a ∧ o.cls ≠ .type "tuple") : Tups a b := fun p hp hc => k p hp fun hx => by
  refine hide_goal fun kHide => ?_
  obtain ⟨o, ho, hne⟩ := hd _ hx
  refine kHide ?_
  clear kHide
  have e : o = p.2 := Option.some.inj ((N _ ho).1.symm.trans (N _ hp).1)
  exact hne (e ▸ hc)
theorem Tups.of_sub {a b : Led} (h : ∀ p ∈ a, p ∈ b) : Tups a b := fun p hp _ => h p hp
theorem LitIn.ups {nw nw' : Led} {l : Lit} {a : Addr} (h : LitIn nw l a) (k : Tups nw nw') : LitIn nw' l a := let ⟨n, t1, t2, t3, q⟩ := h; ⟨n, t1, t2, t3, k _ q rfl⟩
theorem ClIn.ups {nw nw' : Led} {c : Clause} {a : Addr} (h : ClIn nw c a) (k : Tups nw nw') : ClIn nw' c a := let ⟨qs, n, q, e, l⟩ := h; ⟨qs, n, k _ q rfl, e, fun q hq => (l q hq).ups k⟩
noncomputable def IntsT (nw : Led) (xs : List Int) (a : Addr) : Prop := ∃ vs n, (a, tupO vs.toArray n) ∈ nw ∧ IntsAre vs xs
theorem IntsT.ups {nw nw' : Led} {xs : List Int} {a : Addr} (h : IntsT nw xs a) (k : Tups nw nw') : IntsT nw' xs a := let ⟨vs, n, q, e⟩ := h; ⟨vs, n, k _ q rfl, e⟩
inductive Note where
  | none
  | int (i : Int)
  | ints (xs : List Int)
noncomputable def NoIn (nw : Led) : Note → Value → Prop
  | .none, v => v = .none
  | .int i, v => ∃ t, v = .int i t
  | .ints xs, v => ∃ a, v = .ref a ∧ IntsT nw xs a
theorem NoIn.ups {nw nw' : Led} (k : Tups nw nw') : ∀ {o : Note} {v : Value}, NoIn nw o v → NoIn nw' o v
  | .none, _, h => h
  | .int _, _, h => h
  | .ints _, _, ⟨a, e, h⟩ => ⟨a, e, h.ups k⟩
structure Step where
  rule : Str
  cl : Clause
  pr : List Int
  no : Note
noncomputable def StIn (nw : Led) (s : Step) (v : Value) : Prop := ∃ a k t ca pa nv, v = .ref a ∧ (a, stepO (.str s.rule t) ca (.ref pa) nv k) ∈ nw ∧ ClIn nw s.cl ca ∧ IntsT nw s.pr pa ∧ NoIn nw s.no nv
theorem StIn.ups {nw nw' : Led} {s : Step} {v : Value} (h : StIn nw s v) (u : Tups nw nw') : StIn nw' s v := by
  refine hide_goal fun kHide => ?_
  obtain ⟨a, k, t, ca, pa, nv, e, h1, h2, h3, h4⟩ := h
  refine kHide ?_
  clear kHide
  exact ⟨a, k, t, ca, pa, nv, e, u _ h1 rfl, h2.ups u, h3.ups u, h4.ups u⟩
noncomputable def StAll (nw : Led) : List Step → List Value → Prop
  | [], [] => True
  | s :: ss, v :: vs => StIn nw s v ∧ StAll nw ss vs
  | _, _ => False
theorem StAll.ups {nw nw' : Led} (u : Tups nw nw') : ∀ {ss : List Step} {vs : List Value}, StAll nw ss vs → StAll nw' ss vs
  | [], [], _ => trivial
  | _ :: _, _ :: _, h => ⟨h.1.ups u, StAll.ups u h.2⟩
  | [], _ :: _, h => h.elim
  | _ :: _, [], h => h.elim
theorem StAll.length {nw : Led} : ∀ {ss : List Step} {vs : List Value}, StAll nw ss vs → vs.length = ss.length
  | [], [], _ => rfl
  | _ :: _, _ :: _, h => by simp [StAll.length h.2]
  | [], _ :: _, h => h.elim
  | _ :: _, [], h => h.elim
theorem StAll.snoc {nw : Led} {s : Step} {v : Value} (hs : StIn nw s v) : ∀ {ss : List Step} {vs : List Value}, StAll nw ss vs → StAll nw (ss ++ [s]) (vs ++ [v])
  | [], [], _ => ⟨hs, trivial⟩
  | _ :: _, _ :: _, h => ⟨h.1, StAll.snoc hs h.2⟩
  | [], _ :: _, h => h.elim
  | _ :: _, [], h => h.elim
theorem StAll.at {nw : Led} : ∀ {ss : List Step} {vs : List Value} {i : Nat} {v : Value}, StAll nw ss vs → vs[i]? = some v → ∃ s, ss[i]? = some s ∧ StIn nw s v := by
  intro ss
  induction ss with
  | nil =>
    intro vs i v h e
    cases vs with
    | nil => cases e
    | cons _ _ => exact h.elim
  | cons s ss ih =>
    intro vs i v h e
    cases vs with
    | nil => exact h.elim
    | cons u vs =>
      cases i with
      | zero => cases e; exact ⟨s, rfl, h.1⟩
      | succ i =>
        have q := ih h.2 e
        exact q

noncomputable def fidx (st : List Step) (c : Clause) : Option Nat := st.findIdx? fun s => decide (s.cl = c)
structure PlOk (st : List Step) (xs : Places) : Prop where
  len : xs.length ≤ st.length
  val : ∀ x ∈ xs, ∃ (i : Nat) (t : Tok), x.2.2 = Value.int (i : Int) t ∧ fidx st x.1 = some i
  all : ∀ s ∈ st, ∃ x ∈ xs, x.1 = s.cl
theorem fidx_none {st : List Step} {c : Clause} : fidx st c = none ↔ ∀ s ∈ st, s.cl ≠ c := by
  unfold fidx; rw [List.findIdx?_eq_none_iff]; simp
theorem fidx_app_old {st : List Step} {c : Clause} {i : Nat} (s : Step) (h : fidx st c = some i) : fidx (st ++ [s]) c = some i := by
  unfold fidx at *; rw [List.findIdx?_append, h]; rfl
theorem fidx_app_new {st : List Step} (s : Step) (h : fidx st s.cl = none) : fidx (st ++ [s]) s.cl = some st.length := by
  unfold fidx at *; rw [List.findIdx?_append, h]; simp
theorem PlOk.old {st : List Step} {xs : Places} (h : PlOk st xs) (s : Step) (hx : ∃ x ∈ xs, x.1 = s.cl) : PlOk (st ++ [s]) xs where
  len := by rw [List.length_append]; have := h.len; simp; omega
  val := fun x hx => let ⟨i, t, e, f⟩ := h.val x hx; ⟨i, t, e, fidx_app_old s f⟩
  all := fun s' hs' => by
    rcases List.mem_append.mp hs' with q | q
    · exact h.all s' q
    · rw [List.mem_singleton.mp q]; exact hx
theorem PlOk.new {st : List Step} {xs : Places} (h : PlOk st xs) (s : Step) (a : Addr) (t : Tok) (hx : ∀ x ∈ xs, x.1 ≠ s.cl) : PlOk (st ++ [s]) (xs ++ [(s.cl, a, .int (st.length : Nat) t)]) where
  len := by simp [h.len]
  val := fun x hx' => by
    rcases List.mem_append.mp hx' with q | q
    · obtain ⟨i, t, e, f⟩ := h.val x q; exact ⟨i, t, e, fidx_app_old s f⟩
    · rw [List.mem_singleton.mp q]
      exact ⟨st.length, t, rfl, fidx_app_new s (fidx_none.mpr fun s' hs' e => by obtain ⟨x, hx1, hx2⟩ := h.all s' hs'; exact hx x hx1 (hx2.trans e))⟩
  all := fun s' hs' => by
    rcases List.mem_append.mp hs' with q | q
    · obtain ⟨x, hx1, hx2⟩ := h.all s' q; exact ⟨x, List.mem_append_left _ hx1, hx2⟩
    · exact ⟨_, List.mem_append_right _ List.mem_cons_self, by rw [List.mem_singleton.mp q]⟩

/-- the log in the ledger -/
structure LogAt (w : World) (lg ld sl pd : Addr) (st : List Step) (nw : Led) : Prop where
  ex : ∃ t1 t2 sv n po xs, (lg, instObj 149 ld) ∈ nw ∧ (ld, logD w sl pd t1 t2) ∈ nw ∧ (sl, listOf sv.toArray n) ∈ nw ∧ (pd, po) ∈ nw ∧ PlacesO PR w po xs ∧ (∀ x ∈ xs, ClIn nw x.1 x.2.1) ∧ StAll nw st sv ∧ PlOk st xs
  lo : (pd == sysModules) = false
  ne : @Ne Nat ld pd
/-- the tape in the ledger -/
noncomputable def TapeAt (w : World) (tp cl : Addr) (cs : List Value) (sp : Int) (nw : Led) : Prop := ∃ o nc, (tp, o) ∈ nw ∧ (cl, listOf cs.toArray nc) ∈ nw ∧ TapeD PR w o cl sp
theorem dict_ne_seq {prog : Program} {o : Obj} {xs : Places} {w : World} (h : PlacesO prog w o xs) {a : Array Value} {n : Nat} : listOf a n ≠ o := by
  intro e; obtain ⟨es, ep, _, hd, _⟩ := h; rw [← e] at hd; cases hd
section
variable {w : World} {A₀ A : Around} {base h₀ : Heap} {outer : List Env} {env : Env} {L : Addr} {m mg mb : Str → Option Value} {mean : ExcName → Option Value} {E : Value → Shared → Prop} {s : Shared} {nw : Led}

theorem filter_upd {x : Addr} {o o' : Obj} {a : Led} : Keep [x] a ((x, o') :: a.filter fun p => decide (@Ne Nat p.1 x)) := fun p hp hn => by
  refine List.mem_cons_of_mem _ (List.mem_filter.mpr ⟨hp, decide_eq_true ?_⟩)
  intro e; exact hn (List.mem_singleton.mpr e)
theorem filter_off {x : Addr} {a : Led} : OwnOff (a.filter fun p => decide (@Ne Nat p.1 x)) [x] := fun p hp b hb => by
  rw [List.mem_singleton.mp hb]; exact of_decide_eq_true (List.mem_filter.mp hp).2

theorem take_N {tp cl : Addr} {sp wide : Int} {wt : Tok} {cs : List Value} {ns : List Int} {Q : Value → Shared → Prop}
    (G : Gr w A₀ base h₀ outer mean mg mb) (a : Ar 20 50 A env outer L) (F : Fr h₀ L s.heap m) (N : News h₀ L s.heap nw) (T : TapeAt w tp cl cs sp nw) (hi : IntsAre cs ns) (hn : ns.length ≤ 63) (h0 : 0 ≤ sp) (h1 : sp ≤ 1000000) (hw : 1 ≤ wide) (hw2 : wide ≤ 1000)
    (h : ∀ n t h' tk nw', 0 ≤ n → n < wide → Fr h₀ L h' m → News h₀ L h' nw' → TapeAt w tp cl cs (sp + 1) nw' → Keep [tp] nw nw' → Q (.int n t) { s with heap := h', toks := tk }) :
    wpAny (model PR w) A (call (.ref 160) [.ref tp, .int wide wt]) Q E s := by
  refine hide_goal fun kHide => ?_
  obtain ⟨o, nc, hm, hc, D⟩ := T
  refine kHide ?_
  clear kHide
  have hne : cl ≠ tp := tape_ne N hm hc D
  refine take_core (tl := nw.filter fun p => decide (@Ne Nat p.1 tp)) (cs := cs) (nc := nc) G a F (N.perm ?_) filter_off hne D hi hn h0 h1 hw hw2 fun n t h' tk o' x1 x2 F' N' D' =>
    h n t h' tk _ x1 x2 F' N' ⟨o', nc, List.mem_cons_self .., List.mem_cons_of_mem _ (List.mem_cons_self ..), D'⟩ fun p hp hn => ?_
  · intro p hp
    rcases List.mem_cons.mp hp with rfl | hp
    · exact hm
    · rcases List.mem_cons.mp hp with rfl | hp
      · exact hc
      · exact (List.mem_filter.mp hp).1
  · rcases List.mem_cons.mp (filter_upd (o := o) (o' := o') p hp hn) with q | q
    · rw [q]; exact List.mem_cons_self ..
    · exact List.mem_cons_of_mem _ (List.mem_cons_of_mem _ q)
theorem lit_N {tp cl : Addr} {sp : Int} {cs : List Value} {ns : List Int} {Q : Value → Shared → Prop}
    (G : Gr w A₀ base h₀ outer mean mg mb) (a : Ar 22 60 A env outer L) (F : Fr h₀ L s.heap m) (N : News h₀ L s.heap nw) (T : TapeAt w tp cl cs sp nw) (hi : IntsAre cs ns) (hn : ns.length ≤ 63) (h0 : 0 ≤ sp) (h1 : sp ≤ 100000)
    (h : ∀ r l h' tk nw', 0 ≤ l.1 → l.1 < 2 → l.2.1 ∈ signs → 0 ≤ l.2.2 → l.2.2 < 2 → Fr h₀ L h' m → News h₀ L h' nw' → TapeAt w tp cl cs (sp + 1 + 1 + 1) nw' → Keep [tp] nw nw' → LitIn nw' l r → (∀ p ∈ nw, p.1 < r) → Q (.ref r) { s with heap := h', toks := tk }) :
    wpAny (model PR w) A (call (.ref 167) [.ref tp]) Q E s := by
  refine hide_goal fun kHide => ?_
  obtain ⟨o, nc, hm, hc, D⟩ := T
  refine kHide ?_
  clear kHide
  have hne : cl ≠ tp := tape_ne N hm hc D
  refine lit_core (tl := nw.filter fun p => decide (@Ne Nat p.1 tp)) (cs := cs) (nc := nc) G a F (N.perm ?_) filter_off hne D hi hn h0 h1 fun r x sg k t1 t2 t3 n h' tk o' x1 x2 x3 x4 x5 F' N' l' D' =>
    h r (x, sg, k) h' tk _ x1 x2 x3 x4 x5 F' N' ⟨o', nc, List.mem_cons_of_mem _ (List.mem_cons_self ..), List.mem_cons_of_mem _ (List.mem_cons_of_mem _ (List.mem_cons_self ..)), D'⟩ (fun p hp hn => ?_) ⟨n, t1, t2, t3, List.mem_cons_self ..⟩ fun p hp => ?_
  · intro p hp
    rcases List.mem_cons.mp hp with rfl | hp
    · exact hm
    · rcases List.mem_cons.mp hp with rfl | hp
      · exact hc
      · exact (List.mem_filter.mp hp).1
  · rcases List.mem_cons.mp (filter_upd (o := o) (o' := o') p hp hn) with q | q
    · rw [q]; exact List.mem_cons_of_mem _ (List.mem_cons_self ..)
    · exact List.mem_cons_of_mem _ (List.mem_cons_of_mem _ (List.mem_cons_of_mem _ q))
  · by_cases e : @Eq Nat p.1 tp
    · rw [show p.1 = tp from e]; exact allLt_mem l' (tp, o) (List.mem_cons_self ..)
    · exact allLt_mem l' p (List.mem_cons_of_mem _ (List.mem_cons_of_mem _ (List.mem_filter.mpr ⟨hp, decide_eq_true e⟩)))
theorem filter2 {x y : Addr} {a : Led} : OwnOff (a.filter fun p => decide (@Ne Nat p.1 x ∧ @Ne Nat p.1 y)) [x, y] := fun p hp b hb => by
  have := of_decide_eq_true (List.mem_filter.mp hp).2
  rcases List.mem_cons.mp hb with rfl | hb
  · exact this.1
  · rw [List.mem_singleton.mp hb]; exact this.2
theorem add_N {lg ld sl pd ca pa : Addr} {st : List Step} {s' : Step} {rt : Tok} {nv : Value} {Q : Value → Shared → Prop}
    (G : Gr w A₀ base h₀ outer mean mg mb) (a0 : Ar 30 90 A env outer L) (F : Fr h₀ L s.heap m) (N : News h₀ L s.heap nw) (La : LogAt w lg ld sl pd st nw) (hlen : st.length ≤ 90) (hca : ClIn nw s'.cl ca) (hpa : IntsT nw s'.pr pa) (hno : NoIn nw s'.no nv)
    (h : ∀ t h' tk nw', Fr h₀ L h' m → News h₀ L h' nw' → LogAt w lg ld sl pd (st ++ [s']) nw' → Keep [sl, pd] nw nw' → Q (.int (st.length : Nat) t) { s with heap := h', toks := tk }) :
    wpAny (model PR w) A (call (.ref 104) [.ref lg, .str s'.rule rt, .ref ca, .ref pa, nv]) Q E s := by
  refine hide_goal fun kHide => ?_
  obtain ⟨⟨t1, t2, sv, n, po, xs, m1, m2, m3, m4, hpl, hxs, hst, hok⟩, lo, hne⟩ := La
  refine kHide ?_
  clear kHide
  have n1 : @Ne Nat lg sl := N.ne_of_cls m1 m3 (by intro e; cases e)
  have n2 : @Ne Nat ld sl := N.twoPlaces m2 m3 (by intro e; cases (congrArg Obj.data e))
  have n3 : @Ne Nat pd sl := Ne.symm (N.twoPlaces m3 m4 (dict_ne_seq hpl))
  have n4 : @Ne Nat lg pd := N.twoPlaces m1 m4 (by
    intro e
    refine hide_goal fun kHide => ?_
    obtain ⟨es, ep, _, hd, _⟩ := hpl
    refine kHide ?_
    clear kHide
    rw [← show instObj 149 ld = po from e] at hd
    cases hd)
  have ups : Tups nw (nw.filter fun p => decide (@Ne Nat p.1 sl ∧ @Ne Nat p.1 pd)) := fun p hp hc => List.mem_filter.mpr ⟨hp, decide_eq_true ⟨N.twoPlaces hp m3 (by intro e; rw [e] at hc; exact absurd (Value.type.inj hc) (by decide)), N.twoPlaces hp m4 (by
    intro e
    refine hide_goal fun kHide => ?_
    obtain ⟨es, ep, ⟨hd, _⟩, _⟩ := hpl
    refine kHide ?_
    clear kHide
    rw [e] at hc
    rw [show (pd, po).2.cls = po.cls from rfl, hd] at hc
    exact absurd (Value.type.inj hc) (by decide))⟩⟩
  refine add_core (tl := nw.filter fun p => decide (@Ne Nat p.1 sl ∧ @Ne Nat p.1 pd)) (steps := sv) (n := n) (po := po) (xs := xs) (t1 := t1) (t2 := t2) (c := s'.cl) G a0 F (N.perm ?_) filter2 hpl (fun x hx => (hxs x hx).ups ups) (hca.ups ups) (by rw [hst.length]; omega) (by have := hok.len; omega) lo n1 n2 n3 n4 hne ?_
  · intro p hp
    simp only [List.mem_cons] at hp
    rcases hp with rfl | rfl | rfl | rfl | hp
    · exact m1
    · exact m2
    · exact m3
    · exact m4
    · exact (List.mem_filter.mp hp).1
  · intro x k t1' t3 h' tk po' xs' F' N' lt' hpl' hcase
    have keep : Keep [sl, pd] nw ((x, stepO (.str s'.rule rt) ca (.ref pa) nv k) :: (lg, instObj 149 ld) :: (ld, logD w sl pd t1 t2) :: (sl, listOf (sv ++ [Value.ref x]).toArray (n + 1)) :: (pd, po') :: nw.filter fun p => decide (@Ne Nat p.1 sl ∧ @Ne Nat p.1 pd)) := fun p hp hn => by
      simp only [List.mem_cons, List.not_mem_nil, or_false, not_or] at hn
      exact List.mem_cons_of_mem _ (List.mem_cons_of_mem _ (List.mem_cons_of_mem _ (List.mem_cons_of_mem _ (List.mem_cons_of_mem _ (List.mem_filter.mpr ⟨hp, decide_eq_true hn⟩)))))
    have ups' : Tups nw _ := keep.tups N (fun y hy => by
      rcases List.mem_cons.mp hy with rfl | hy
      · exact ⟨_, m3, fun e => absurd (Value.type.inj e) (by decide)⟩
      · rw [List.mem_singleton.mp hy]
        refine hide_goal fun kHide => ?_
        obtain ⟨es, ep, ⟨hd, _⟩, _⟩ := hpl
        refine kHide ?_
        clear kHide
        exact ⟨_, m4, by rw [hd]; exact fun e => absurd (Value.type.inj e) (by decide)⟩)
    rw [hst.length] at hcase
    rw [hst.length]
    refine h t1' h' tk _ F' N' ⟨⟨t1, t2, sv ++ [Value.ref x], n + 1, po', xs', ?_, ?_, ?_, ?_, hpl', ?_, StAll.snoc ⟨x, k, rt, ca, pa, nv, rfl, List.mem_cons_self .., hca.ups ups', hpa.ups ups', hno.ups ups'⟩ (hst.ups ups'), ?_⟩, lo, hne⟩ keep
    · exact List.mem_cons_of_mem _ (List.mem_cons_self ..)
    · exact List.mem_cons_of_mem _ (List.mem_cons_of_mem _ (List.mem_cons_self ..))
    · exact List.mem_cons_of_mem _ (List.mem_cons_of_mem _ (List.mem_cons_of_mem _ (List.mem_cons_self ..)))
    · exact List.mem_cons_of_mem _ (List.mem_cons_of_mem _ (List.mem_cons_of_mem _ (List.mem_cons_of_mem _ (List.mem_cons_self ..))))
    · intro y hy
      rcases hcase with ⟨_, rfl⟩ | ⟨_, rfl⟩
      · exact (hxs y hy).ups ups'
      · rcases List.mem_append.mp hy with hy | hy
        · exact (hxs y hy).ups ups'
        · rw [List.mem_singleton.mp hy]; exact hca.ups ups'
    · rcases hcase with ⟨hx, rfl⟩ | ⟨hx, rfl⟩
      · exact hok.old s' hx
      · exact hok.new s' ca t3 hx
theorem LogAt.sub {lg ld sl pd : Addr} {st : List Step} {nw' : Led} (h : LogAt w lg ld sl pd st nw) (k : ∀ p ∈ nw, p ∈ nw') : LogAt w lg ld sl pd st nw' := by
  refine hide_goal fun kHide => ?_
  obtain ⟨⟨t1, t2, sv, n, po, xs, m1, m2, m3, m4, hpl, hxs, hst, hok⟩, lo, hne⟩ := h
  refine kHide ?_
  clear kHide
  exact ⟨⟨t1, t2, sv, n, po, xs, k _ m1, k _ m2, k _ m3, k _ m4, hpl, fun x hx => (hxs x hx).mono k, hst.ups (Tups.of_sub k), hok⟩, lo, hne⟩
theorem TapeAt.sub {tp cl : Addr} {cs : List Value} {sp : Int} {nw' : Led} (h : TapeAt w tp cl cs sp nw) (k : ∀ p ∈ nw, p ∈ nw') : TapeAt w tp cl cs sp nw' := let ⟨o, nc, a, b, c⟩ := h; ⟨o, nc, k _ a, k _ b, c⟩
end
end Mine
end

section
set_option maxRecDepth 100000
set_option maxHeartbeats 2000000
open PySem PySem.W PySem.Calls PySem.Spec PyProof.Rows PyProof.Rows.LCg
namespace Mine
theorem fresh_C3 : True := by
  w_top off
  trivial
section
variable {prog : Program} {w : World} {A₀ A : Around} {base : Heap} {outer : List Env} {E : Value → Shared → Prop} {s : Shared} {h₀ : Heap} {L : Addr} {m mg mb : Str → Option Value} {mean : ExcName → Option Value} {env : Env}
theorem rest_inv {elt : Expr} {x : Str} {scope : Scope} {cl : List (Str × Addr)} {S : Led → Prop} {P : Nat → Value → Prop} {Fin : List Value → Led → Prop} (J : Nat → List Value → Led → Prop)
    (n : Nat) (turn : ∀ i ys news v I oI C oC D m₂ h tk (E' : Value → Shared → Prop), i < n → J i ys news → P i v → NsObj oC m₂ → m₂ x = some v → Fr h₀ L h m → News h₀ L h ((I, oI) :: (C, oC) :: (D, lst ys) :: news) → Off3 I C D news → ((@Ne Nat I C) ∧ (@Ne Nat I D) ∧ (@Ne Nat C D)) →
      wpAny (model prog w) A (eval elt (compEnvC scope cl C env)) (fun y s₂ => ∃ h' tk' new, s₂ = { s with heap := h', toks := tk' } ∧ Fr h₀ L h' m ∧ News h₀ L h' ((I, oI) :: (C, oC) :: (D, lst ys) :: new) ∧ Off3 I C D new ∧ S new ∧ J (i + 1) (ys ++ [y]) new) E' { s with heap := h, toks := tk })
    (fin : ∀ ys news, J n ys news → Fin ys news) :
    ∀ k i ys news, i + k = n → J i ys news → CompRest prog w A h₀ L m env elt x scope cl s S P Fin k i ys news := by
  intro k
  induction k with
  | zero => intro i ys news e hJ; exact fin ys news (by rw [← show i = n from e]; exact hJ)
  | succ k ih =>
    intro i ys news e hJ
    intro v I oI C oC D m₂ h tk E' hP hC hx F N off ne
    refine wpAny_mono (turn i ys news v I oI C oC D m₂ h tk E' (by omega) hJ hP hC hx F N off ne) (fun y s₂ hy => ?_) fun _ _ e => e
    refine hide_goal fun kHide => ?_
    obtain ⟨h', tk', new, rfl, F', N', off', hS', hJ'⟩ := hy
    refine kHide ?_
    clear kHide
    exact ⟨h', tk', new, rfl, F', N', off', hS', ih (i + 1) (ys ++ [y]) new (by omega) hJ'⟩
/-- the ledger but three places -/
noncomputable def new3 (I C D : Addr) (nw : Led) : Led := nw.filter fun p => decide (@Ne Nat p.1 I ∧ @Ne Nat p.1 C ∧ @Ne Nat p.1 D)
theorem new3_off {I C D : Addr} {nw : Led} : Off3 I C D (new3 I C D nw) := Off3.of fun p hp => of_decide_eq_true (List.mem_filter.mp hp).2
theorem new3_mem {I C D : Addr} {nw : Led} {p : Addr × Obj} (hp : p ∈ nw) (h : @Ne Nat p.1 I ∧ @Ne Nat p.1 C ∧ @Ne Nat p.1 D) : p ∈ new3 I C D nw := List.mem_filter.mpr ⟨hp, decide_eq_true h⟩
theorem new3_sub {I C D : Addr} {nw : Led} {p : Addr × Obj} (hp : p ∈ new3 I C D nw) : p ∈ nw := (List.mem_filter.mp hp).1
theorem new3_News {I C D : Addr} {oI oC oD : Obj} {nw : Led} {h : Heap} (N : News h₀ L h nw) (hI : (I, oI) ∈ nw) (hC : (C, oC) ∈ nw) (hD : (D, oD) ∈ nw) : News h₀ L h ((I, oI) :: (C, oC) :: (D, oD) :: new3 I C D nw) := N.perm fun p hp => by
  rcases List.mem_cons.mp hp with rfl | hp
  · exact hI
  rcases List.mem_cons.mp hp with rfl | hp
  · exact hC
  rcases List.mem_cons.mp hp with rfl | hp
  · exact hD
  · exact new3_sub hp
/-- a turn that changes one thing of the ledger alone -/
theorem turn3 {I C D tp : Addr} {oI oC oD ot : Obj} {news nw' : Led} {h : Heap} (N' : News h₀ L h nw') (off : Off3 I C D news) (htp : (tp, ot) ∈ news) (K : Keep [tp] ((I, oI) :: (C, oC) :: (D, oD) :: news) nw') :
    News h₀ L h ((I, oI) :: (C, oC) :: (D, oD) :: new3 I C D nw') ∧ Keep [tp] news (new3 I C D nw') := by
  have ot := off.mem _ htp
  refine ⟨new3_News N' (K _ (List.Mem.head _) ?_) (K _ (List.Mem.tail _ (List.Mem.head _)) ?_) (K _ (List.Mem.tail _ (List.Mem.tail _ (List.Mem.head _))) ?_), fun p hp hn => new3_mem (K p (List.Mem.tail _ (List.Mem.tail _ (List.Mem.tail _ hp))) hn) (off.mem p hp)⟩
  · intro e; exact ot.1 (List.mem_singleton.mp e).symm
  · intro e; exact ot.2.1 (List.mem_singleton.mp e).symm
  · intro e; exact ot.2.2 (List.mem_singleton.mp e).symm
theorem TapeAt.turn {I C D tp cl : Addr} {oI oC oD : Obj} {cs : List Value} {sp sp' : Int} {news nw' : Led} (T : TapeAt w tp cl cs sp news) (off : Off3 I C D news) (T' : TapeAt w tp cl cs sp' nw') : TapeAt w tp cl cs sp' (new3 I C D nw') := by
  refine hide_goal fun kHide => ?_
  obtain ⟨o, nc, h1, h2, h3⟩ := T
  obtain ⟨o', nc', h1', h2', h3'⟩ := T'
  refine kHide ?_
  clear kHide
  have q1 := off.mem (tp, o) h1
  have q2 := off.mem (cl, listOf cs.toArray nc) h2
  exact ⟨o', nc', new3_mem h1' q1, new3_mem h2' q2, h3'⟩
end
section
variable {w : World} {A₀ A : Around} {base : Heap} {outer : List Env} {E : Value → Shared → Prop} {s : Shared} {h₀ : Heap} {L : Addr} {m mg mb : Str → Option Value} {mean : ExcName → Option Value} {env : Env}
noncomputable def LitsIn (nw : Led) (qs : List (Lit × Addr)) : Prop := ∀ q ∈ qs, LitIn nw q.1 q.2 ∧ q.1.2.1 ∈ signs
theorem LitsIn.ups {nw nw' : Led} {qs : List (Lit × Addr)} (h : LitsIn nw qs) (k : Tups nw nw') : LitsIn nw' qs := fun q hq => ⟨(h q hq).1.ups k, (h q hq).2⟩
theorem tape_keep_tups {tp cl : Addr} {cs : List Value} {sp : Int} {nw nw' : Led} {h : Heap} (T : TapeAt w tp cl cs sp nw) (N : News h₀ L h nw) (K : Keep [tp] nw nw') : Tups nw nw' := by
  refine hide_goal fun kHide => ?_
  obtain ⟨o, nc, h1, h2, h3⟩ := T
  refine kHide ?_
  clear kHide
  refine K.tups N fun x hx => ?_
  rw [List.mem_singleton.mp hx]
  refine hide_goal fun kHide => ?_
  obtain ⟨ts, es, ep, ⟨hd, _⟩, _⟩ := h3
  refine kHide ?_
  clear kHide
  exact ⟨o, h1, by rw [hd]; exact fun e => absurd (Value.type.inj e) (by decide)⟩
theorem rest_lits {elt : Expr} {x : Str} {scope : Scope} {cl' : List (Str × Addr)} {P : Nat → Value → Prop} {Fin : List Value → Led → Prop} {tp cl : Addr} {cs : List Value} {ns : List Int} {nw0 : Led} {spo : Int} (n : Nat)
    (G : Gr w A₀ base h₀ outer mean mg mb) (a0 : Ar 22 60 A env outer L) (T0 : TapeAt w tp cl cs spo nw0) (hi : IntsAre cs ns) (hn : ns.length ≤ 63) (h0 : 0 ≤ spo) (h1 : spo + 3 * (n : Int) ≤ 100000)
    (heval : ∀ news ys I oI C oC D m₂ h tk (Q' : Value → Shared → Prop) (E' : Value → Shared → Prop), Keep [tp] nw0 news → NsObj oC m₂ → Fr h₀ L h m → News h₀ L h ((I, oI) :: (C, oC) :: (D, lst ys) :: news) → Off3 I C D news → ((@Ne Nat I C) ∧ (@Ne Nat I D) ∧ (@Ne Nat C D)) →
      wpAny (model PR w) A (call (.ref 167) [.ref tp]) Q' E' { s with heap := h, toks := tk } → wpAny (model PR w) A (eval elt (compEnvC scope cl' C env)) Q' E' { s with heap := h, toks := tk })
    (fin : ∀ qs news, qs.length = n → Keep [tp] nw0 news → TapeAt w tp cl cs (spo + 3 * (n : Int)) news → LitsIn news qs → Fin (refs qs) news) :
    CompRest PR w A h₀ L m env elt x scope cl' s (fun _ => True) P Fin n 0 [] nw0 := by
  refine rest_inv (fun i ys news => ∃ qs, ys = refs qs ∧ qs.length = i ∧ Keep [tp] nw0 news ∧ TapeAt w tp cl cs (spo + 3 * (i : Int)) news ∧ LitsIn news qs) n ?_ ?_ n 0 [] nw0 (by omega) ⟨[], rfl, rfl, Keep.refl _ _, by simpa using T0, fun q hq => nomatch hq⟩
  · rintro i ys news v I oI C oC D m₂ h tk E' hlt ⟨qs, rfl, hl, K, T, hq⟩ hP hC hx F N off ne
    refine heval news (refs qs) I oI C oC D m₂ h tk _ E' K hC F N off ne ?_
    have sub : ∀ p ∈ news, p ∈ (I, oI) :: (C, oC) :: (D, lst (refs qs)) :: news := fun p hp => List.Mem.tail _ (List.Mem.tail _ (List.Mem.tail _ hp))
    have htp : ∃ ot, (tp, ot) ∈ news := let ⟨o, _, q, _⟩ := T; ⟨o, q⟩
    refine hide_goal fun kHide => ?_
    obtain ⟨ot, htp⟩ := htp
    refine kHide ?_
    clear kHide
    refine lit_N (s := { s with heap := h, toks := tk }) G a0 F N (T.sub sub) hi hn (by omega) (by omega) fun r l h' tk' nw' _ _ sg _ _ F' N' T' K' hr hlt' => ?_
    refine hide_goal fun kHide => ?_
    obtain ⟨N2, K2⟩ := turn3 N' off htp K'
    refine kHide ?_
    clear kHide
    refine ⟨h', tk', new3 I C D nw', rfl, F', N2, new3_off, trivial, qs ++ [(l, r)], by simp [refs], by simp [hl], K.trans K2 (fun _ q => q) (fun _ q => q), ?_, ?_⟩
    · have := T.turn off T' (I := I) (C := C) (D := D)  (oI := oI) (oC := oC) (oD := oC)
      rw [show spo + 3 * ((i + 1 : Nat) : Int) = spo + 3 * (i : Int) + 1 + 1 + 1 by omega]
      exact this
    · intro q hq'
      rcases List.mem_append.mp hq' with hq' | hq'
      · have tu := tape_keep_tups T (fun p hp => N p (sub p hp)) K2
        exact ⟨(hq q hq').1.ups tu, (hq q hq').2⟩
      · rw [List.mem_singleton.mp hq']
        refine hide_goal fun kHide => ?_
        obtain ⟨n1, t1, t2, t3, hin⟩ := hr
        refine kHide ?_
        clear kHide
        exact ⟨⟨n1, t1, t2, t3, new3_mem hin ⟨Nat.ne_of_gt (hlt' _ (List.Mem.head _)), Nat.ne_of_gt (hlt' _ (List.Mem.tail _ (List.Mem.head _))), Nat.ne_of_gt (hlt' _ (List.Mem.tail _ (List.Mem.tail _ (List.Mem.head _))))⟩⟩, sg⟩
  · rintro ys news ⟨qs, rfl, hl, K, T, hq⟩
    exact fin qs news hl K T hq
theorem rest_takes {elt : Expr} {x : Str} {scope : Scope} {cl' : List (Str × Addr)} {P : Nat → Value → Prop} {Fin : List Value → Led → Prop} {tp cl : Addr} {cs : List Value} {ns : List Int} {nw0 : Led} {spo wide : Int} (n : Nat)
    (G : Gr w A₀ base h₀ outer mean mg mb) (a0 : Ar 20 50 A env outer L) (T0 : TapeAt w tp cl cs spo nw0) (hi : IntsAre cs ns) (hn : ns.length ≤ 63) (h0 : 0 ≤ spo) (h1 : spo + (n : Int) ≤ 100000) (hw : 1 ≤ wide) (hw2 : wide ≤ 1000)
    (heval : ∀ news ys I oI C oC D m₂ h tk (Q' : Value → Shared → Prop) (E' : Value → Shared → Prop), Keep [tp] nw0 news → NsObj oC m₂ → Fr h₀ L h m → News h₀ L h ((I, oI) :: (C, oC) :: (D, lst ys) :: news) → Off3 I C D news → ((@Ne Nat I C) ∧ (@Ne Nat I D) ∧ (@Ne Nat C D)) →
      (∀ tk wt, wpAny (model PR w) A (call (.ref 160) [.ref tp, .int wide wt]) Q' E' { s with heap := h, toks := tk }) → wpAny (model PR w) A (eval elt (compEnvC scope cl' C env)) Q' E' { s with heap := h, toks := tk })
    (fin : ∀ ys xs news, IntsAre ys xs → xs.length = n → Keep [tp] nw0 news → TapeAt w tp cl cs (spo + (n : Int)) news → Fin ys news) :
    CompRest PR w A h₀ L m env elt x scope cl' s (fun _ => True) P Fin n 0 [] nw0 := by
  refine rest_inv (fun i ys news => ∃ xs, IntsAre ys xs ∧ xs.length = i ∧ Keep [tp] nw0 news ∧ TapeAt w tp cl cs (spo + (i : Int)) news) n ?_ ?_ n 0 [] nw0 (by omega) ⟨[], .nil, rfl, Keep.refl _ _, by simpa using T0⟩
  · rintro i ys news v I oI C oC D m₂ h tk E' hlt ⟨xs, hx, hl, K, T⟩ hP hC hx' F N off ne
    refine heval news ys I oI C oC D m₂ h tk _ E' K hC F N off ne fun tk wt => ?_
    have sub : ∀ p ∈ news, p ∈ (I, oI) :: (C, oC) :: (D, lst ys) :: news := fun p hp => List.Mem.tail _ (List.Mem.tail _ (List.Mem.tail _ hp))
    have htp : ∃ ot, (tp, ot) ∈ news := let ⟨o, _, q, _⟩ := T; ⟨o, q⟩
    refine hide_goal fun kHide => ?_
    obtain ⟨ot, htp⟩ := htp
    refine kHide ?_
    clear kHide
    refine take_N (s := { s with heap := h, toks := tk }) G a0 F N (T.sub sub) hi hn (by omega) (by omega) hw hw2 fun n' t h' tk' nw' _ _ F' N' T' K' => ?_
    refine hide_goal fun kHide => ?_
    obtain ⟨N2, K2⟩ := turn3 N' off htp K'
    refine kHide ?_
    clear kHide
    refine ⟨h', tk', new3 I C D nw', rfl, F', N2, new3_off, trivial, xs ++ [n'], ?_, by simp [hl], K.trans K2 (fun _ q => q) (fun _ q => q), ?_⟩
    · exact ints_snoc hx _ _
    · have := T.turn off T' (I := I) (C := C) (D := D)  (oI := oI) (oC := oC) (oD := oC)
      rw [show spo + ((i + 1 : Nat) : Int) = spo + (i : Int) + 1 by omega]
      exact this
  · rintro ys news ⟨xs, hx, hl, K, T⟩
    exact fin ys xs news hx hl K T
end
end Mine
end

section
set_option maxRecDepth 100000
set_option maxHeartbeats 8000000
open PySem PySem.W PySem.Calls PyProof.Rows
namespace Mine
theorem fresh_W7 : True := by
  w_top off
  trivial
/-- a goal that the walker leaves alone -/
noncomputable def Mark (p : Prop) : Prop := p
theorem Mark.go {p : Prop} (h : Mark p) : p := h
theorem Mark.un {p : Prop} (h : p) : Mark p := h
section
variable {w : World} {A₀ A : Around} {base h₀ : Heap} {outer : List Env} {env : Env} {L : Addr} {m mg mb : Str → Option Value} {mean : ExcName → Option Value} {E : Value → Shared → Prop} {s : Shared} {nw : Led}
local macro_rules | `(tactic| k_mem) => `(tactic| assumption)
local macro_rules | `(tactic| walk_at "call ref") => `(tactic| (k_here; refine Mark.go ?_))
local macro_rules | `(tactic| walk_at "call type:tuple") => `(tactic| (k_here; refine Mark.go ?_))

theorem tup_list {prog : Program} {l : Addr} {vs : List Value} {xs : List Int} {n : Nat} {Q : Value → Shared → Prop} (F : Fr h₀ L s.heap m) (N : News h₀ L s.heap nw) (hm : (l, listOf vs.toArray n) ∈ nw) (hi : IntsAre vs xs) (hz : vs.length ≤ 16384)
    (h : ∀ D h' nw', Fr h₀ L h' m → News h₀ L h' nw' → (∀ p ∈ nw, p ∈ nw') → (∀ p ∈ nw, p.1 < D) → IntsT nw' xs D → Q (.ref D) { s with heap := h' }) :
    wpAny (model prog w) A (call (.type "tuple") [.ref l]) Q E s :=
  kde_tupleOf (zs := vs) F N (N.isList (d := none) (sl := #[]) hm) (by simpa using hz) rfl fun D h' F' N' l' => h D h' _ F' N' (fun p hp => List.mem_cons_of_mem _ hp) l' ⟨vs, _, List.mem_cons_self .., hi⟩

theorem nogood_list {lg ld sl pd ca pl : Addr} {st : List Step} {c : Clause} {vs : List Value} {xs : List Int} {n : Nat} {Q : Value → Shared → Prop}
    (G : Gr w A₀ base h₀ outer mean mg mb) (a0 : Ar 32 100 A env outer L) (F : Fr h₀ L s.heap m) (N : News h₀ L s.heap nw) (La : LogAt w lg ld sl pd st nw) (hlen : st.length ≤ 90) (hca : ClIn nw c ca) (hm : (pl, listOf vs.toArray n) ∈ nw) (hi : IntsAre vs xs) (hz : vs.length ≤ 100)
    (h : ∀ t h' tk nw', Fr h₀ L h' m → News h₀ L h' nw' → LogAt w lg ld sl pd (st ++ [⟨Str.ofString "nogood", c, xs, .none⟩]) nw' → Keep [sl, pd] nw nw' → Q (.int (st.length : Nat) t) { s with heap := h', toks := tk }) :
    wpAny (model PR w) A (call (.ref 132) [.ref lg, .ref ca, .ref pl]) Q E s := by
  refine hide_goal fun kHide => ?_
  obtain ⟨t1, t2, sv, n0, po, xs0, m1, m2, rest⟩ := La.ex
  refine kHide ?_
  clear kHide
  obtain ⟨hd, dp, fr, gs, u⟩ := A
  obtain ⟨⟨kd, nm, ig, ic, mo⟩, lc, gl, ce, ql, fu, co, frm, bt⟩ := env
  refine hide_goal fun kHide => ?_
  obtain ⟨rfl, rfl, hdp, hun, hlo, hki⟩ := a0
  refine kHide ?_
  clear kHide
  dsimp only at hlo hki
  subst hlo hki
  refine hide_goal fun kHide => ?_
  obtain ⟨B, X, T⟩ := G
  refine kHide ?_
  clear kHide
  have fill : (∀ P : Params, Ahead.heap_1_39 P = Ahead.heap_1_39 P) ∧ PySem.Challenge.rw_qd0004_01 = PySem.Challenge.rw_qd0004_01 := by
    k_fill
    exact ⟨fun _ => rfl, rfl⟩
  clear fill rest
  dsimp only at hdp hun
  refine wpAny_call ?_
  k_enter
  k_steps
  refine Mark.un (tup_list (by assumption) (by assumption) hm hi (by first | (with_reducible first | assumption | exact u_1 | exact u_2 | exact u_3 | exact i_0 | exact i_1 | exact i_2 | exact n_le | exact sub0 | exact c_0 | exact c_lo | exact c_le | exact c_lt | exact c_pos | exact n_s1 | exact n_eq) | decide | omega) ?_)
  intro D1 h1 nw1 F1 N1 s1 l1 i1
  dsimp only
  k_steps
  refine Mark.un (add_N (s' := ⟨Str.ofString "nogood", c, xs, .none⟩) ⟨by assumption, by assumption, by assumption⟩ ⟨rfl, rfl, by k_room, by k_room, rfl, rfl⟩ F1 N1 (La.sub s1) hlen (hca.mono s1) i1 rfl ?_)
  intro t h2 tk2 nw2 F2 N2 La2 K2
  dsimp only
  k_steps
  exact h _ _ _ _ (by assumption) (by assumption) La2 fun p hp hn => K2 p (s1 p hp) hn
theorem nogood_tup {lg ld sl pd ca pl : Addr} {st : List Step} {c : Clause} {xs : List Int} {Q : Value → Shared → Prop}
    (G : Gr w A₀ base h₀ outer mean mg mb) (a0 : Ar 32 100 A env outer L) (F : Fr h₀ L s.heap m) (N : News h₀ L s.heap nw) (La : LogAt w lg ld sl pd st nw) (hlen : st.length ≤ 90) (hca : ClIn nw c ca) (hi : IntsT nw xs pl)
    (h : ∀ t h' tk nw', Fr h₀ L h' m → News h₀ L h' nw' → LogAt w lg ld sl pd (st ++ [⟨Str.ofString "nogood", c, xs, .none⟩]) nw' → Keep [sl, pd] nw nw' → Q (.int (st.length : Nat) t) { s with heap := h', toks := tk }) :
    wpAny (model PR w) A (call (.ref 132) [.ref lg, .ref ca, .ref pl]) Q E s := by
  refine hide_goal fun kHide => ?_
  obtain ⟨t1, t2, sv, n0, po, xs0, m1, m2, rest⟩ := La.ex
  refine kHide ?_
  clear kHide
  obtain ⟨hd, dp, fr, gs, u⟩ := A
  obtain ⟨⟨kd, nm, ig, ic, mo⟩, lc, gl, ce, ql, fu, co, frm, bt⟩ := env
  refine hide_goal fun kHide => ?_
  obtain ⟨rfl, rfl, hdp, hun, hlo, hki⟩ := a0
  refine kHide ?_
  clear kHide
  dsimp only at hlo hki
  subst hlo hki
  refine hide_goal fun kHide => ?_
  obtain ⟨B, X, T⟩ := G
  refine kHide ?_
  clear kHide
  have fill : (∀ P : Params, Ahead.heap_1_39 P = Ahead.heap_1_39 P) ∧ PySem.Challenge.rw_qd0004_01 = PySem.Challenge.rw_qd0004_01 := by
    k_fill
    exact ⟨fun _ => rfl, rfl⟩
  clear fill rest
  dsimp only at hdp hun
  refine wpAny_call ?_
  k_enter
  k_steps
  refine hide_goal fun kHide => ?_
  obtain ⟨vs, n1, hm, hv⟩ := hi
  refine kHide ?_
  clear kHide
  rename News _ _ _ nw => kN
  refine Mark.un (call_tuple_same (items := vs.toArray) ⟨_, (kN _ hm).1, rfl, n1, rfl⟩ ?_)
  (try dsimp only)
  k_steps
  refine Mark.un (add_N (s' := ⟨Str.ofString "nogood", c, xs, .none⟩) ⟨by assumption, by assumption, by assumption⟩ ⟨rfl, rfl, by k_room, by k_room, rfl, rfl⟩ (by assumption) kN La hlen hca ⟨vs, n1, hm, hv⟩ rfl ?_)
  intro t h2 tk2 nw2 F2 N2 La2 K2
  dsimp only
  k_steps
  exact h _ _ _ _ (by assumption) (by assumption) La2 K2

theorem better_N {lg ld sl pd fl : Addr} {st : List Step} {x k : Int} {sg : Str} {xt kt sgt : Tok} {vs : List Value} {xs : List Int} {n : Nat} {Q : Value → Shared → Prop}
    (G : Gr w A₀ base h₀ outer mean mg mb) (a0 : Ar 32 100 A env outer L) (F : Fr h₀ L s.heap m) (N : News h₀ L s.heap nw) (La : LogAt w lg ld sl pd st nw) (hlen : st.length ≤ 90) (hm : (fl, listOf vs.toArray n) ∈ nw) (hi : IntsAre vs xs) (hz : vs.length ≤ 100)
    (h : ∀ t h' tk nw', Fr h₀ L h' m → News h₀ L h' nw' → LogAt w lg ld sl pd (st ++ [⟨Str.ofString "better", [(x, sg, k)], [], .ints xs⟩]) nw' → Keep [sl, pd] nw nw' → Q (.int (st.length : Nat) t) { s with heap := h', toks := tk }) :
    wpAny (model PR w) A (call (.ref 139) [.ref lg, .int x xt, .str sg sgt, .int k kt, .ref fl]) Q E s := by
  refine hide_goal fun kHide => ?_
  obtain ⟨t1, t2, sv, n0, po, xs0, m1, m2, rest⟩ := La.ex
  refine kHide ?_
  clear kHide
  obtain ⟨hd, dp, fr, gs, u⟩ := A
  obtain ⟨⟨kd, nm, ig, ic, mo⟩, lc, gl, ce, ql, fu, co, frm, bt⟩ := env
  refine hide_goal fun kHide => ?_
  obtain ⟨rfl, rfl, hdp, hun, hlo, hki⟩ := a0
  refine kHide ?_
  clear kHide
  dsimp only at hlo hki
  subst hlo hki
  refine hide_goal fun kHide => ?_
  obtain ⟨B, X, T⟩ := G
  refine kHide ?_
  clear kHide
  have fill : (∀ P : Params, Ahead.heap_1_39 P = Ahead.heap_1_39 P) ∧ PySem.Challenge.rw_qd0004_01 = PySem.Challenge.rw_qd0004_01 := by
    k_fill
    exact ⟨fun _ => rfl, rfl⟩
  clear fill rest
  dsimp only at hdp hun
  refine wpAny_call ?_
  k_enter
  k_steps
  rename News _ _ _ (_ :: _ :: _ :: nw) => kN
  refine Mark.un (tup_list (by assumption) kN (List.Mem.tail _ (List.Mem.tail _ (List.Mem.tail _ hm))) hi (by first | (with_reducible first | assumption | exact u_1 | exact u_2 | exact u_3 | exact i_0 | exact i_1 | exact i_2 | exact n_le | exact sub0 | exact c_0 | exact c_lo | exact c_le | exact c_lt | exact c_pos | exact n_s1 | exact n_eq) | decide | omega) ?_)
  intro D1 h1 nw1 F1 N1 s1 l1 i1
  dsimp only
  k_steps
  have up : ∀ p ∈ nw, p ∈ nw1 := fun p hp => s1 p (List.Mem.tail _ (List.Mem.tail _ (List.Mem.tail _ hp)))
  refine Mark.un (add_N (s' := ⟨Str.ofString "better", [(x, sg, k)], [], .ints xs⟩) ⟨by assumption, by assumption, by assumption⟩ ⟨rfl, rfl, by k_room, by k_room, rfl, rfl⟩ F1 N1 (La.sub up) hlen ?_ ?_ ⟨_, rfl, i1⟩ ?_)
  · exact ⟨[((x, sg, k), _)], _, s1 _ (List.Mem.tail _ (List.Mem.head _)), rfl, fun q hq => by
      rw [List.mem_singleton.mp hq]
      exact ⟨_, _, _, _, s1 _ (List.Mem.tail _ (List.Mem.tail _ (List.Mem.head _)))⟩⟩
  · exact ⟨[], _, s1 _ (List.Mem.head _), .nil⟩
  intro t h2 tk2 nw2 F2 N2 La2 K2
  dsimp only
  k_steps
  exact h _ _ _ _ (by assumption) (by assumption) La2 fun p hp hn => K2 p (up p hp) hn
theorem seen_N {lg ld sl pd ca fl : Addr} {st : List Step} {c : Clause} {vs : List Value} {xs : List Int} {n : Nat} {Q : Value → Shared → Prop}
    (G : Gr w A₀ base h₀ outer mean mg mb) (a0 : Ar 32 100 A env outer L) (F : Fr h₀ L s.heap m) (N : News h₀ L s.heap nw) (La : LogAt w lg ld sl pd st nw) (hlen : st.length ≤ 90) (hca : ClIn nw c ca) (hm : (fl, listOf vs.toArray n) ∈ nw) (hi : IntsAre vs xs) (hz : vs.length ≤ 100)
    (h : ∀ t h' tk nw', Fr h₀ L h' m → News h₀ L h' nw' → LogAt w lg ld sl pd (st ++ [⟨Str.ofString "seen", c, [], .ints xs⟩]) nw' → Keep [sl, pd] nw nw' → Q (.int (st.length : Nat) t) { s with heap := h', toks := tk }) :
    wpAny (model PR w) A (call (.ref 146) [.ref lg, .ref ca, .ref fl]) Q E s := by
  refine hide_goal fun kHide => ?_
  obtain ⟨t1, t2, sv, n0, po, xs0, m1, m2, rest⟩ := La.ex
  refine kHide ?_
  clear kHide
  obtain ⟨hd, dp, fr, gs, u⟩ := A
  obtain ⟨⟨kd, nm, ig, ic, mo⟩, lc, gl, ce, ql, fu, co, frm, bt⟩ := env
  refine hide_goal fun kHide => ?_
  obtain ⟨rfl, rfl, hdp, hun, hlo, hki⟩ := a0
  refine kHide ?_
  clear kHide
  dsimp only at hlo hki
  subst hlo hki
  refine hide_goal fun kHide => ?_
  obtain ⟨B, X, T⟩ := G
  refine kHide ?_
  clear kHide
  have fill : (∀ P : Params, Ahead.heap_1_39 P = Ahead.heap_1_39 P) ∧ PySem.Challenge.rw_qd0004_01 = PySem.Challenge.rw_qd0004_01 := by
    k_fill
    exact ⟨fun _ => rfl, rfl⟩
  clear fill rest
  dsimp only at hdp hun
  refine wpAny_call ?_
  k_enter
  k_steps
  rename News _ _ _ (_ :: nw) => kN
  refine Mark.un (tup_list (by assumption) kN (List.Mem.tail _ hm) hi (by first | (with_reducible first | assumption | exact u_1 | exact u_2 | exact u_3 | exact i_0 | exact i_1 | exact i_2 | exact n_le | exact sub0 | exact c_0 | exact c_lo | exact c_le | exact c_lt | exact c_pos | exact n_s1 | exact n_eq) | decide | omega) ?_)
  intro D1 h1 nw1 F1 N1 s1 l1 i1
  dsimp only
  k_steps
  have up : ∀ p ∈ nw, p ∈ nw1 := fun p hp => s1 p (List.Mem.tail _ hp)
  refine Mark.un (add_N (s' := ⟨Str.ofString "seen", c, [], .ints xs⟩) ⟨by assumption, by assumption, by assumption⟩ ⟨rfl, rfl, by k_room, by k_room, rfl, rfl⟩ F1 N1 (La.sub up) hlen (hca.mono up) ?_ ⟨_, rfl, i1⟩ ?_)
  · exact ⟨[], _, s1 _ (List.Mem.head _), .nil⟩
  intro t h2 tk2 nw2 F2 N2 La2 K2
  dsimp only
  k_steps
  exact h _ _ _ _ (by assumption) (by assumption) La2 fun p hp hn => K2 p (up p hp) hn
end
end Mine
end

section
set_option maxRecDepth 100000
set_option maxHeartbeats 2000000
open PySem PySem.W PySem.Calls PyProof.Rows
namespace Mine
theorem fresh_D1 : True := by
  w_top off
  trivial
noncomputable def litD (l : Lit) : Dat := .tuple [.int l.1, .str l.2.1, .int l.2.2]
noncomputable def clD (c : Clause) : Dat := .tuple (c.map litD)
theorem litD_inj {a b : Lit} (h : litD a = litD b) : a = b := by
  obtain ⟨x, s, k⟩ := a; obtain ⟨x', s', k'⟩ := b
  simp only [litD, Dat.tuple.injEq, List.cons.injEq, Dat.int.injEq, Dat.str.injEq, and_true] at h
  obtain ⟨rfl, rfl, rfl⟩ := h; rfl
theorem clD_inj {a b : Clause} (h : clD a = clD b) : a = b := by
  simp only [clD, Dat.tuple.injEq] at h
  induction a generalizing b with
  | nil => cases b with
    | nil => rfl
    | cons _ _ => simp at h
  | cons x a ih => cases b with
    | nil => simp at h
    | cons y b =>
      simp only [List.map_cons, List.cons.injEq] at h
      rw [litD_inj h.1, ih h.2]
noncomputable def intsD (xs : List Int) : Dat := .tuple (xs.map .int)
noncomputable def noD : Note → Dat
  | .none => .none
  | .int i => .int i
  | .ints xs => intsD xs
noncomputable def stD (s : Step) : Dat := .tuple [.str s.rule, clD s.cl, intsD s.pr, noD s.no]
section
variable {nw : Led}
theorem LitIn.dat {l : Lit} {a : Addr} (h : LitIn nw l a) : DatIn nw (.ref a) (litD l) := by
  refine hide_goal fun kHide => ?_
  obtain ⟨n, t1, t2, t3, q⟩ := h
  refine kHide ?_
  clear kHide
  exact .tuple (vs := [.int l.1 t1, .str l.2.1 t2, .int l.2.2 t3]) (n := n) q (.cons (.int _ _) (.cons (.str _ _) (.cons (.int _ _) .nil)))
theorem lits_dat : ∀ {qs : List (Lit × Addr)}, (∀ q ∈ qs, LitIn nw q.1 q.2) → DatAll nw (refs qs) ((qs.map (·.1)).map litD)
  | [], _ => .nil
  | q :: _, h => .cons (h q List.mem_cons_self).dat (lits_dat fun z hz => h z (List.mem_cons_of_mem _ hz))
theorem ClIn.dat {c : Clause} {a : Addr} (h : ClIn nw c a) : DatIn nw (.ref a) (clD c) := by
  refine hide_goal fun kHide => ?_
  obtain ⟨qs, n, q, rfl, hq⟩ := h
  refine kHide ?_
  clear kHide
  exact .tuple q (lits_dat hq)
theorem ints_dat {vs : List Value} {xs : List Int} (h : IntsAre vs xs) : DatAll nw vs (xs.map .int) := by
  induction h with
  | nil => exact .nil
  | cons n t _ ih => exact .cons (.int n t) ih
theorem IntsT.dat {xs : List Int} {a : Addr} (h : IntsT nw xs a) : DatIn nw (.ref a) (intsD xs) := let ⟨_, _, q, e⟩ := h; .tuple q (ints_dat e)
theorem NoIn.dat : ∀ {o : Note} {v : Value}, NoIn nw o v → DatIn nw v (noD o)
  | .none, _, h => by rw [show _ = Value.none from h]; exact .none
  | .int i, _, ⟨t, e⟩ => by rw [e]; exact .int i t
  | .ints xs, _, ⟨a, e, h⟩ => by rw [e]; exact h.dat
theorem StIn.dat {s : Step} {v : Value} (h : StIn nw s v) : DatIn nw v (stD s) := by
  refine hide_goal fun kHide => ?_
  obtain ⟨a, k, t, ca, pa, nv, rfl, h1, h2, h3, h4⟩ := h
  refine kHide ?_
  clear kHide
  exact .tuple (vs := [.str s.rule t, .ref ca, .ref pa, nv]) (n := k) h1 (.cons (.str _ _) (.cons h2.dat (.cons h3.dat (.cons h4.dat .nil))))
theorem StAll.dat : ∀ {ss : List Step} {vs : List Value}, StAll nw ss vs → DatAll nw vs (ss.map stD)
  | [], [], _ => .nil
  | _ :: _, _ :: _, h => .cons h.1.dat (StAll.dat h.2)
  | [], _ :: _, h => h.elim
  | _ :: _, [], h => h.elim
end
/-- strings that the comparison of data knows -/
noncomputable def ClOk (c : Clause) : Prop := ∀ l ∈ c, l.2.1 ∈ signs
theorem sign_ok {x : Str} (h : x ∈ signs) : PyData.strOk x = true := by
  simp only [signs, List.mem_cons, List.not_mem_nil, or_false] at h
  rcases h with rfl | rfl | rfl | rfl <;> decide +kernel
theorem litD_ok {l : Lit} (h : l.2.1 ∈ signs) (n : Nat) : kqdOk (n + 1) (litD l) = true := by
  cases n <;> simp [litD, kqdOk, sign_ok h]
theorem clD_ok {c : Clause} (h : ClOk c) (n : Nat) : kqdOk (n + 2) (clD c) = true := by
  simp only [clD, kqdOk, List.all_eq_true, List.mem_map]
  rintro _ ⟨l, hl, rfl⟩
  exact litD_ok (h l hl) n
theorem intsD_ok (xs : List Int) (n : Nat) : kqdOk (n + 1) (intsD xs) = true := by
  simp only [intsD, kqdOk, List.all_eq_true, List.mem_map]
  rintro _ ⟨l, hl, rfl⟩
  cases n <;> rfl
theorem noD_ok : ∀ (o : Note) (n : Nat), kqdOk (n + 1) (noD o) = true
  | .none, _ => rfl
  | .int _, _ => rfl
  | .ints xs, n => intsD_ok xs n
structure StOk (s : Step) : Prop where
  r : PyData.strOk s.rule = true
  c : ClOk s.cl
theorem stD_ok {s : Step} (h : StOk s) (n : Nat) : kqdOk (n + 3) (stD s) = true := by
  simp only [stD, kqdOk, List.all_cons, List.all_nil, Bool.and_true, Bool.and_eq_true]
  exact ⟨h.r, clD_ok h.c n, intsD_ok s.pr (n + 1), noD_ok s.no (n + 1)⟩
section
variable {prog : Program} {w : World} {A : Around} {E : Value → Shared → Prop} {s : Shared} {h₀ : Heap} {L : Addr} {a b : Value} {nw : Led} {da db : Dat} {Q : Value → Shared → Prop}
theorem dat_shaped {d : Dat} (h : kqdOk 8 d = true) : SeqAt.shaped (kqdP d) = true := by
  have la := kqd_lay 8 d h
  unfold SeqAt.shaped; rw [la.1, Bool.true_and]; exact decide_eq_true (Nat.le_trans la.2 (by decide))
theorem eq_dat (N : News h₀ L s.heap nw) (Da : DatIn nw a da) (Db : DatIn nw b db) (ha : kqdOk 8 da = true) (hb : kqdOk 8 db = true) (hu : A.units + 64 < cLine) (h1 : da = db → Q (.bool true) s) (h2 : da ≠ db → Q (.bool false) s) :
    wpAny (model prog w) A (compareOp .Eq a b) Q E s := by
  refine hide_goal fun kHide => ?_
  obtain ⟨as, ra⟩ := kqd_in N 8 Da ha
  obtain ⟨bs, rb⟩ := kqd_in N 8 Db hb
  refine kHide ?_
  clear kHide
  refine eq_dataH ra rb (dat_shaped ha) (dat_shaped hb) hu ?_
  have q := kqd_eqv 8 da db 8 ha hb
  by_cases e : da = db
  · rw [q.mpr e]; exact h1 e
  · rw [Bool.eq_false_iff.mpr fun x => e (q.mp x)]; exact h2 e
theorem ne_dat (N : News h₀ L s.heap nw) (Da : DatIn nw a da) (Db : DatIn nw b db) (ha : kqdOk 8 da = true) (hb : kqdOk 8 db = true) (hu : A.units + 64 < cLine) (h1 : da = db → Q (.bool false) s) (h2 : da ≠ db → Q (.bool true) s) :
    wpAny (model prog w) A (compareOp .NotEq a b) Q E s := by
  refine hide_goal fun kHide => ?_
  obtain ⟨as, ra⟩ := kqd_in N 8 Da ha
  obtain ⟨bs, rb⟩ := kqd_in N 8 Db hb
  refine kHide ?_
  clear kHide
  refine ne_dataH ra rb (dat_shaped ha) (dat_shaped hb) hu ?_
  have q := kqd_eqv 8 da db 8 ha hb
  by_cases e : da = db
  · rw [q.mpr e]; exact h1 e
  · rw [Bool.eq_false_iff.mpr fun x => e (q.mp x)]; exact h2 e
end
end Mine
end

section
set_option maxRecDepth 100000
set_option maxHeartbeats 2000000
open PySem
namespace Mine
theorem fresh_E1 : True := by
  w_top off
  trivial
/-- what an own exception's tail of classes must bear -/
structure BmFacts (B : String) (bm : List Value) : Prop where
  hasB : bm.contains (.type B) = true
  noAttr : bm.contains (.type "AttributeError") = false
  noName : bm.contains (.type "NameError") = false
section
variable {M : Model} {A : Around} {E : Value → Shared → Prop} {h : Heap} {g : Array GenState} {d : Drawn} {t : Nat} {os : OsState}
variable {nm q : Str} {C N : Addr} {bs bm bmB : List Value} {hdct : Bool} {sn : List Str} {sub : List Value} {ab : Bool} {col : Option Bool} {dd : Option Addr} {k0 k1 k2 k3 k5 : Option Value} {B newId initId : String}
theorem check_new_own (F : ExcBaseFacts B newId initId bmB) (T : BmFacts B bm) {rest : List Value} {Q : Unit → Shared → Prop} (hC : h.get? C = some (excClassObj nm q C N bs bm hdct sn sub ab col dd k0 k1 k2 k3 k5 newId))
    (hq : Q () ⟨h, g, d, t, os⟩) : wpAny M A (checkBuiltinCall newId ⟨.ref C :: rest, []⟩) Q E ⟨h, g, d, t, os⟩ := by
  have hcont : (Value.ref C :: bm).contains (.type B) = true := by rw [List.contains_cons, T.hasB, Bool.or_true]
  have hstar := F.noStar
  simp only [checkBuiltinCall, F.newKind, F.newSplit, F.newRow]
  repeat (first | refine wpAny_loadPart_at hC ?_ | (refine wpAny_isSubtype_exc hC ?_; rw [hcont]) | refine wpAny_staticBase_exc hC ?_ | refine wpAny_madeBy_exc hC ?_ | simp only [bne_self_eq_false, Bool.false_eq_true, if_false] | wp_step)
  exact hq
theorem lookup_own {mN : Str → Option Value} {name : Str} {v : Value} {Q : Option Value → Shared → Prop} (hC : h.get? C = some (excClassObj nm q C N bs bm hdct sn sub ab col dd k0 k1 k2 k3 k5 newId)) (hn : h.Ns N mN) (hi : mN name = some v)
    (hq : Q (some v) ⟨h, g, d, t, os⟩) : wpAny M A (typeLookup (.ref C) name) Q E ⟨h, g, d, t, os⟩ := by
  rw [typeLookup_eq]
  refine wpAny_bind (wpAny_mroOf_exc hC ?_)
  rw [lookupAlong_cons]
  refine wpAny_bind (wpAny_classOwn_exc hC hn ?_)
  rw [hi]
  exact wpAny_pure hq
end
section
variable {prog : Program} {w : World} {A : Around} {R : Result → Shared → Prop} {E : Value → Shared → Prop} {h : Heap} {g : Array GenState} {d : Drawn} {t : Nat} {os : OsState}
variable {nm q : Str} {C N : Addr} {bs bm bmB : List Value} {hdct : Bool} {sn : List Str} {sub : List Value} {ab : Bool} {col : Option Bool} {dd : Option Addr} {k0 k1 k2 k3 k5 : Option Value} {B newId initId : String}
theorem exc_new_own (F : ExcBaseFacts B newId initId bmB) (T : BmFacts B bm) {rest : List Value} (hC : h.get? C = some (excClassObj nm q C N bs bm hdct sn sub ab col dd k0 k1 k2 k3 k5 newId))
    (hq : R (.ok (.ret (.ref (h.objs.size + 1)))) ⟨(h.push { cls := .type "tuple", data := .seq rest.toArray }).push
      { cls := .ref C, data := .fields #[.ref h.objs.size, .none, .none, .none, .bool false, .none] }, g, d, t, os⟩) (hrest : rest.length ≤ sizeLine := by size_fits) :
    codeAny (model prog w) A (.builtin newId ⟨.ref C :: rest, []⟩) R ⟨h, g, d, t, os⟩ := by
  have hends := F.ends
  have hcB : (Value.ref C :: bm).contains (.type B) = true := by rw [List.contains_cons, T.hasB, Bool.or_true]
  have hcA : (Value.ref C :: bm).contains (.type "AttributeError") = false := by rw [List.contains_cons, T.noAttr]; rfl
  have hcN : (Value.ref C :: bm).contains (.type "NameError") = false := by rw [List.contains_cons, T.noName]; rfl
  refine codeAny_builtinAt F.entry ?_
  unfold Builtin.«BaseException.__new__»
  refine PySem.wpAt_bind ?_
  show wpAt _ _ _ (stack >>= _) _ _ _
  refine PySem.wpAt_bind (wpAt_stack fun p below => wpAt_of_wpAny ?_)
  wp_walk
  refine wpAt_of_wpAny ?_
  rw [F.owner]
  repeat (first | with_reducible refine wpAny_madeHere_exc F.canon hC ?_ | with_reducible refine wpAny_loadPart_at hC ?_ | (with_reducible refine wpAny_isSubtype_exc hC ?_; first | rw [hcB] | rw [hcA] | rw [hcN]) | wp_step)
  show R _ _
  rw [Heap.size_push]
  exact hq

theorem type_call_own (F : ExcBaseFacts B newId initId bmB) (T : BmFacts B bm) {mN : Str → Option Value} {rest : List Value} {fI : Addr} {oI : Obj} {Q : Fin → Shared → Prop}
    (hC : h.get? C = some (excClassObj nm q C N bs bm hdct sn sub ab col dd k0 k1 k2 k3 k5 newId)) (hn : h.Ns N mN) (hi : mN "__init__" = some (.ref fI))
    (hfI : h.get? fI = some oI) (hfc : oI.cls = .type "function")
    (hq : ∀ h' e, Heap.MadeExcOf h h' e (.ref C) rest →
      wpAny (model prog w) A (call (.ref fI) (.ref e :: rest)) (fun r s' => r = .none ∧ Q (.done (.ret (.ref e))) s') E ⟨h', g, d, t, os⟩) (hrest : rest.length ≤ sizeLine := by size_fits) :
    wpAny (model prog w) A (Builtin.«type.__call__» ⟨.ref C :: rest, []⟩) Q E ⟨h, g, d, t, os⟩ := by
  repeat (first | with_reducible refine wpAny_loadPart_at hC ?_ | with_reducible refine wpAny_madeBy_exc hC ?_ | wp_step)
  refine codeAny_call_builtin_code (Code.quiet_builtin _ F.quiet) (check_new_own F T hC ?_)
  refine exc_new_own F T hC ?_ hrest
  show wpAny _ _ _ _ _ _
  have hC₁ := Heap.get?_push_of_some { cls := .ref C, data := .fields #[.ref h.objs.size, .none, .none, .none, .bool false, .none] }
    (Heap.get?_push_of_some { cls := .type "tuple", data := .seq rest.toArray } hC)
  have hfI₁ := Heap.get?_push_of_some { cls := .ref C, data := .fields #[.ref h.objs.size, .none, .none, .none, .bool false, .none] }
    (Heap.get?_push_of_some { cls := .type "tuple", data := .seq rest.toArray } hfI)
  have hn₁ : ((h.push { cls := .type "tuple", data := .seq rest.toArray }).push { cls := .ref C, data := .fields #[.ref h.objs.size, .none, .none, .none, .bool false, .none] }).Ns N mN :=
    let ⟨o, es, ep, e, r⟩ := hn; ⟨o, es, ep, Heap.get?_push_of_some _ (Heap.get?_push_of_some _ e), r⟩
  have hget : ((h.push { cls := .type "tuple", data := .seq rest.toArray }).push
      { cls := .ref C, data := .fields #[.ref h.objs.size, .none, .none, .none, .bool false, .none] }).get? (h.objs.size + 1) = some
      { cls := .ref C, data := .fields #[.ref h.objs.size, .none, .none, .none, .bool false, .none] } := by heap_get
  have hcC : (Value.ref C :: bm).contains (.ref C) = true := by simp
  unfold isInstance
  repeat (first | with_reducible refine wpAny_loadPart_at hget ?_ | (with_reducible refine wpAny_isSubtype_exc hC₁ ?_; rw [hcC]) | wp_step)
  show wpAny _ _ (typeLookup (.ref C) _) _ _ _
  refine lookup_own hC₁ hn₁ hi ?_
  refine wpAny_holding (wpAny_bind ?_)
  unfold bindSpecial
  refine wpAny_bind (wpAny_typeOf (T := "function") ⟨_, hfI₁, hfc⟩ ?_)
  rw [if_pos (by decide)]
  refine wpAny_pure (wpAny_bind (wpAny_mono (hq _ (h.objs.size + 1) ⟨fun b o hb => Heap.get?_push_of_some _ (Heap.get?_push_of_some _ hb), Heap.get?_none_of_le (Nat.le_succ _), h.objs.size, hget, Heap.get?_none_of_le (Nat.le_refl _), ?_⟩) (fun r s' hr => ?_) fun _ _ x => x))
  · exact Heap.get?_push_of_some _ (Heap.get?_push_at rfl rfl)
  · refine hide_goal fun kHide => ?_
    obtain ⟨rfl, hQ⟩ := hr
    refine kHide ?_
    clear kHide
    wp_walk
    exact hQ

theorem call_own (F : ExcBaseFacts B newId initId bmB) (T : BmFacts B bm) {mN : Str → Option Value} {rest : List Value} {fI : Addr} {oI : Obj} {Q : Value → Shared → Prop}
    (hC : h.get? C = some (excClassObj nm q C N bs bm hdct sn sub ab col dd k0 k1 k2 k3 k5 newId)) (hn : h.Ns N mN) (hi : mN "__init__" = some (.ref fI))
    (hfI : h.get? fI = some oI) (hfc : oI.cls = .type "function")
    (hq : ∀ h' e, Heap.MadeExcOf h h' e (.ref C) rest →
      wpAny (model prog w) (A.under (.builtin "type.__call__" ⟨.ref C :: rest, []⟩)) (call (.ref fI) (.ref e :: rest)) (fun r s' => r = .none ∧ Q (.ref e) s') E ⟨h', g, d, t, os⟩) (hrest : rest.length ≤ sizeLine := by size_fits) :
    wpAny (model prog w) A (call (.ref C) rest) Q E ⟨h, g, d, t, os⟩ := by
  have f1 := tc_lookup
  have f2 := tc_bind (.ref C)
  have hT : (⟨h, g, d, t, os⟩ : Shared).TypeIs (.ref C) "type" := ⟨_, hC, rfl⟩
  refine wpAny_call (codeAny_of_tree ?_)
  show wpAny _ _ (callAny (.ref C) _) _ _ _
  repeat (any_goals (first | assumption | with_reducible refine wpAny_loadPart_at hC ?_ | wp_step))
  refine ⟨rfl, ?_⟩
  refine codeAny_call_builtin_at (Code.quiet_builtin _ (by decide +kernel)) entry_typeCall (wpAny_check_type_call_sub hC (type_call_own (hrest := hrest) F T hC hn hi hfI hfc fun h' e hm => ?_))
  exact hq h' e hm
end
end Mine
end

section
set_option maxRecDepth 100000
set_option maxHeartbeats 4000000
open PySem PySem.W PySem.Calls PyProof.Rows
namespace Mine
theorem fresh_E2 : True := by
  w_top off
  trivial
section
variable {w : World} {A₀ A : Around} {base h₀ : Heap} {outer : List Env} {env : Env} {L : Addr} {m mg mb : Str → Option Value} {mean : ExcName → Option Value} {E : Value → Shared → Prop} {s : Shared} {nw : Led}
theorem fault_new {wh : Str} {n : Int} {wt nt : Tok} {Q : Value → Shared → Prop} (X : (Ahead.heap_1_39 w.params).In h₀) (F : Fr h₀ L s.heap m) (N : News h₀ L s.heap nw)
    (h : ∀ e t h', Fr h₀ L h' m → News h₀ L h' ((e, { cls := .ref 76, data := .fields #[.ref t, .none, .none, .none, .bool false, .none] }) :: (t, { cls := .type "tuple", data := .seq #[.str wh wt, .int n nt] }) :: nw) → (∀ p ∈ nw, @Ne Nat p.1 e ∧ @Ne Nat p.1 t) → @Ne Nat e t →
      wpAny (model PR w) (A.under (.builtin "type.__call__" ⟨.ref 76 :: [.str wh wt, .int n nt], []⟩)) (call (.ref 66) [.ref e, .str wh wt, .int n nt]) (fun r s' => r = .none ∧ Q (.ref e) s') E { s with heap := h' }) :
    wpAny (model PR w) A (call (.ref 76) [.str wh wt, .int n nt]) Q E s := by
  have fill : (∀ P : Params, Ahead.heap_1_39 P = Ahead.heap_1_39 P) ∧ PySem.Challenge.rw_qd0004_01 = PySem.Challenge.rw_qd0004_01 := by
    k_fill
    exact ⟨fun _ => rfl, rfl⟩
  clear fill
  obtain ⟨h1, g, d, t, os⟩ := s
  have X1 := X.keeps F.keep
  have hC : h1.get? 76 = some _ := X1 76 _ (by k_dflt k_is)
  have hI : h1.get? 66 = some _ := X1 66 _ (by k_dflt k_is)
  have hN : h1.get? 75 = some _ := X1 75 _ (by k_dflt k_is)
  have hns : h1.Ns 75 (nsFind _) := ⟨_, _, _, hN, rfl, fun e he => by
    simp only [List.mem_toArray, List.mem_cons, List.not_mem_nil, or_false] at he
    rcases he with rfl | rfl | rfl | rfl | rfl | rfl <;> exact ⟨_, _, rfl⟩, fun _ => rfl⟩
  refine call_own (newId := "Exception.__new__") (B := "Exception") PySem.F.excBase_Exception ⟨by decide +kernel, by decide +kernel, by decide +kernel⟩ hC hns rfl hI rfl ?_ (Nat.le_of_ble_eq_true rfl)
  intro h' e hm
  refine hide_goal fun kHide => ?_
  obtain ⟨keep, fe, t0, he, ft, ht⟩ := hm
  refine kHide ?_
  clear kHide
  have nf : ∀ b, h1.get? b = none → b ≠ L ∧ h₀.get? b = none := fun b hb => by
    refine ⟨fun q => ?_, ?_⟩
    · refine hide_goal fun kHide => ?_
      obtain ⟨o, _, _, ho, _⟩ := F.ns
      refine kHide ?_
      clear kHide
      rw [← q, hb] at ho; cases ho
    · cases e0 : h₀.get? b with
      | none => rfl
      | some o => have := F.keep _ _ e0; rw [hb] at this; cases this
  refine h e t0 h' (F.keeps keep) (fun p hp => ?_) (fun p hp => ⟨fun q => ?_, fun q => ?_⟩) (fun q => ?_)
  · rcases List.mem_cons.mp hp with rfl | hp
    · exact ⟨he, nf e fe⟩
    · rcases List.mem_cons.mp hp with rfl | hp
      · exact ⟨ht, nf t0 ft⟩
      · exact N.grown keep p hp
  · have := (N p hp).1
    rw [show p.1 = e from q, fe] at this; cases this
  · have := (N p hp).1
    rw [show p.1 = t0 from q, ft] at this; cases this
  · rw [show e = t0 from q, ht] at he; cases he
noncomputable abbrev excO (C t : Addr) (d : Option Addr) : Obj := { cls := .ref C, dict := d, data := .fields #[.ref t, .none, .none, .none, .bool false, .none] }
theorem inst_exc {h : Heap} {e t C : Addr} (N : News h₀ L h nw) (hm : (e, excO C t none) ∈ nw) : PySem.W.InstAt h e (excO C t none) C none := ⟨(N _ hm).1, rfl, rfl, trivial⟩
end
end Mine
end

section
set_option maxRecDepth 100000
set_option maxHeartbeats 4000000
open PySem
namespace Mine
theorem fresh_E3 : True := by
  w_top off
  trivial
theorem slot_wrapper_get : Slot "wrapper_descriptor" "__get__" "wrapper_descriptor.__get__" := .of (owner := "wrapper_descriptor") (n := "__get__") (by rw [typeLookup_type, builtinLookup_eq_fast]; kernel_rfl) (by decide +kernel) (by decide +kernel) (by decide +kernel)
  (by first | exact .inl (by decide +kernel) | exact .inr (by decide +kernel)) (by rw [isSubtype_type]; kernel_rfl)
theorem entry_wrapper_get : entryFor table "wrapper_descriptor.__get__" = some Builtin.«wrapper_descriptor.__get__» := entryFor_of_tree (by kernel_rfl)
theorem args_wrapper_get (a b c : Value) : argsOk "wrapper_descriptor.__get__" ⟨[a, b, c], []⟩ := by unfold argsOk; kernel_rfl
theorem type_exc_init : typeOf (.builtin "Exception.__init__") = pure (.type "wrapper_descriptor") := by kernel_rfl
section
variable {prog : Program} {w : World} {A : Around} {E : Value → Shared → Prop} {h : Heap} {g : Array GenState} {d : Drawn} {t : Nat} {os : OsState}
variable {nm q : Str} {C N : Addr} {bs bm bmB : List Value} {hdct : Bool} {sn : List Str} {sub : List Value} {ab : Bool} {col : Option Bool} {dd : Option Addr} {k0 k1 k2 k3 k5 : Option Value} {newId : String}
theorem super_wrap_ga {so D x : Addr} {ox : Obj} {l₀ l : List Value} {K : W.Frag} {name : Str} {tk : Tok} {Q : Fin → Shared → Prop}
    (hso : h.get? so = some { cls := .type "super", dict := none, data := .fields #[.ref D, .ref x, .ref C], slots := #[] }) (hno : W.Looks (model prog w) h (opaqueClassAbove (.ref C)) none)
    (hC : W.Looks (model prog w) h (mroOf (.ref C)) l₀) (hl : (l₀.dropWhile (· != .ref D)).drop 1 = l) (X : K.In h)
    (hf : W.alongIn K name l = some (some (.builtin "Exception.__init__"))) (hxC : x ≠ C) (hn : (name == ("__class__" : Str)) = false)
    (hx : h.get? x = some ox) (hxc : ox.cls = .ref C) (hCo : h.get? C = some (excClassObj nm q C N bs bm hdct sn sub ab col dd k0 k1 k2 k3 k5 newId)) (hcont : (Value.ref C :: bm).contains (.type "Exception") = true)
    (hq : Q (.done (.ret (.ref h.objs.size))) ⟨h.push { cls := .type "method-wrapper", data := .fields #[.builtin "Exception.__init__", .ref x] }, g, d, t, os⟩) :
    wpAny (model prog w) A (Builtin.«super.__getattribute__» ⟨[.ref so, .str name tk], []⟩) Q E ⟨h, g, d, t, os⟩ := by
  have hlk := slot_wrapper_get.lookup
  have hty := type_exc_init
  have hTb : Shared.TypeIs ⟨h, g, d, t, os⟩ (.builtin "Exception.__init__") "wrapper_descriptor" := type_exc_init
  have hown : ".".intercalate ("Exception.__init__".cutAt '.').dropLast = "Exception" := by decide +kernel
  have hne : (Value.ref x == Value.ref C) = false := by simp [hxC]
  have hdt : ({ cls := .type "super", dict := none, data := .fields #[.ref D, .ref x, .ref C], slots := #[] } : Obj).data = .fields #[.ref D, .ref x, .ref C] := rfl
  have f0 : (#[.ref D, .ref x, .ref C] : Array Value)[0]? = some (.ref D) := rfl
  have f1 : (#[.ref D, .ref x, .ref C] : Array Value)[1]? = some (.ref x) := rfl
  have f2 : (#[.ref D, .ref x, .ref C] : Array Value)[2]? = some (.ref C) := rfl
  unfold Builtin.«super.__getattribute__»
  repeat (first
    | (with_reducible refine wpAny_field hso hdt f0 ?_) | (with_reducible refine wpAny_field hso hdt f1 ?_) | (with_reducible refine wpAny_field hso hdt f2 ?_)
    | (with_reducible refine ks_wpAny_notOpaque hno ?_)
    | (with_reducible refine W.Looks.at hC ?_; rw [hl])
    | (refine ks_forIn_along X (fun _ _ => rfl) rfl ?_ hf)
    | (with_reducible refine wpAny_of_eq hty ?_)
    | (with_reducible refine wpAny_call_entry slot_wrapper_get hTb entry_wrapper_get ?_ (args_wrapper_get _ _ _))
    | (with_reducible refine ⟨_, rfl, ?_⟩)
    | (with_reducible refine wpAny_loadPart_at hx ?_)
    | (rw [hxc, hown])
    | (with_reducible refine wpAny_isSubtype_exc hCo ?_; rw [hcont])
    | (simp only [hn, hne, Bool.or_false, Bool.false_eq_true, if_false])
    | wp_step
    | dsimp only)
  all_goals exact hq
theorem super_wrap_method {so D x : Addr} {ox : Obj} {l₀ l : List Value} {K : W.Frag} {name : Str} {pl : Sem Bool} {Q : Value × List Value → Shared → Prop}
    (hso : h.get? so = some { cls := .type "super", dict := none, data := .fields #[.ref D, .ref x, .ref C], slots := #[] }) (hno : W.Looks (model prog w) h (opaqueClassAbove (.ref C)) none)
    (hC : W.Looks (model prog w) h (mroOf (.ref C)) l₀) (hl : (l₀.dropWhile (· != .ref D)).drop 1 = l) (X : K.In h)
    (hf : W.alongIn K name l = some (some (.builtin "Exception.__init__"))) (hxC : x ≠ C) (hn : (name == ("__class__" : Str)) = false)
    (hx : h.get? x = some ox) (hxc : ox.cls = .ref C) (hCo : h.get? C = some (excClassObj nm q C N bs bm hdct sn sub ab col dd k0 k1 k2 k3 k5 newId)) (hcont : (Value.ref C :: bm).contains (.type "Exception") = true)
    (hq : Q (.ref h.objs.size, []) ⟨h.push { cls := .type "method-wrapper", data := .fields #[.builtin "Exception.__init__", .ref x] }, g, d, t + 1, os⟩) :
    wpAny (model prog w) A (getMethod (.ref so) name pl) Q E ⟨h, g, d, t, os⟩ := by
  have hlk := F.ks_slot_super_ga.lookup
  have hcan := F.ks_canon_super_ga
  have hT : ∀ t', (⟨h, g, d, t', os⟩ : Shared).TypeIs (.ref so) "super" := fun _ => ⟨_, hso, rfl⟩
  unfold getMethod
  refine wpAny_bind (wpAny_specialOf (hT _) hlk ?_)
  show wpAny _ _ (if (Manifest.canonical "super.__getattribute__" != "object.__getattribute__") = true then _ else _) _ _ _
  rw [if_pos hcan]
  unfold getAttr getAttrBy
  refine wpAny_bind (wpAny_bind (wpAny_mkText (wpAny_holding (wpAny_bind (wpAny_typeOf (hT _) (wpAny_bind (wpAny_of_eq hlk ?_)))))))
  show wpAny _ _ (getAttrByItsOwn (.ref so) (.str name t) (.type "super") (.builtin "super.__getattribute__") true false) _ _ _
  unfold getAttrByItsOwn hookBefore callGetattribute boundAndCalled
  refine wpAny_bind (wpAny_of_eq (show (if onTheHeap (.type "super") then typeLookup (.type "super") "__getattr__" else pure none) = pure none from rfl) ?_)
  refine wpAny_bind (wpAny_attempt (wpAny_holding ?_))
  show wpAny _ _ (bindSpecial (.builtin "super.__getattribute__") (.ref so) >>= _) _ _ _
  refine wpAny_bind (wpAny_of_eq (F.ks_slot_super_ga.bind _) ?_)
  refine wpAny_mono (Q := fun v s' => v = .ref h.objs.size ∧ s' = ⟨h.push { cls := .type "method-wrapper", data := .fields #[.builtin "Exception.__init__", .ref x] }, g, d, t + 1, os⟩) (E := fun _ _ => False)
    (wpAny_call_entry F.ks_slot_super_ga (hT _) F.ks_entry_super_ga (super_wrap_ga hso hno hC hl X hf hxC hn hx hxc hCo hcont ⟨_, rfl, rfl, rfl⟩) (F.ks_gaArgs_super _ _)) (fun v s' hv => ?_) fun _ _ z => z.elim
  refine hide_goal fun kHide => ?_
  obtain ⟨rfl, rfl⟩ := hv
  refine kHide ?_
  clear kHide
  exact wpAny_pure (wpAny_pure hq)
end
end Mine
end

section
set_option maxRecDepth 100000
set_option maxHeartbeats 4000000
open PySem
namespace Mine
theorem fresh_E4 : True := by
  w_top off
  trivial
section
variable {prog : Program} {w : World} {A : Around} {E : Value → Shared → Prop} {h : Heap} {g : Array GenState} {d : Drawn} {t : Nat} {os : OsState}
variable {nm q : Str} {C N : Addr} {bs bm bmB : List Value} {hdct : Bool} {sn : List Str} {sub : List Value} {ab : Bool} {col : Option Bool} {dd : Option Addr} {k0 k1 k2 k3 k5 : Option Value} {newId : String}
theorem check_bound_init {M : Model} {e : Addr} {oe : Obj} {x : Str} {u : Tok} {Q : Unit → Shared → Prop} (he : h.get? e = some oe) (hcls : oe.cls = .ref C) (hC : h.get? C = some (excClassObj nm q C N bs bm hdct sn sub ab col dd k0 k1 k2 k3 k5 newId)) (hq : Q () ⟨h, g, d, t, os⟩) :
    wpAny M A (checkBoundCall "Exception.__init__" ⟨[.ref e, .str x u], []⟩) Q E ⟨h, g, d, t, os⟩ := by
  simp only [checkBoundCall, PySem.F.excBase_Exception.initKind, PySem.F.excBase_Exception.initRow]
  repeat (first | (with_reducible refine wpAny_loadPart_at he ?_; rw [hcls]) | with_reducible refine wpAny_loadPart_at hC ?_ | wp_step)
  exact hq
theorem code_builtin {id : String} {args : Args} {b : Builtin} {R : Result → Shared → Prop} {s : Shared} (hb : entryFor table id = some b)
    (h : wpAny (model prog w) (A.under (.builtin id args)) (b args) (fun fin s' => match fin with | .done f => R (.ok f) s' | .again c' => c'.quiet = true ∧ codeAny (model prog w) A c' R s') (fun e s' => R (.error e) s') s) :
    codeAny (model prog w) A (.builtin id args) R s := by
  refine codeAny_of_tree ?_
  show wpAny _ _ (match entryFor table id with | some b => b args | none => unsupported ((withoutEnding? id "#data").getD id)) _ _ s
  rw [hb]; exact h
theorem call_wrap {b : Addr} {x : Value} {id : String} {a : Args} {R : Result → Shared → Prop} {s : Shared} (hb : s.heap.get? b = some { cls := .type "method-wrapper", dict := none, data := .fields #[.builtin id, x], slots := #[] }) (hqt : (Code.builtin id { a with pos := x :: a.pos }).quiet = true)
    (hq : wpAny (model prog w) A.in1 (checkBoundCall id { a with pos := x :: a.pos }) (fun _ s' => codeAny (model prog w) A (.builtin id { a with pos := x :: a.pos }) R s') (fun e s' => R (.error e) s') s) : codeAny (model prog w) A (.call (.ref b) a) R s := by
  refine codeAny_of_tree ?_
  show wpAny _ A.in1 (callAny (.ref b) a) _ _ _
  unfold callAny
  refine wpAny_bind (wpAny_load hb ?_)
  have e1 : (Value.type "method-wrapper" == Value.type "method") = false := by decide
  have e2 : (Value.type "method-wrapper" != Value.type "method") = true := by decide
  have e3 : (Value.type "method-wrapper" == Value.type "method-wrapper") = true := by decide
  simp only [e1, e2, e3, Bool.or_true, if_true]
  exact wpAny_bind (wpAny_mono hq (fun _ s' h' => wpAny_pure ⟨hqt, h'⟩) fun _ _ z => z)
theorem init_wrap {b e t0 : Addr} {x : Str} {u : Tok} {R : Result → Shared → Prop} (hb : h.get? b = some { cls := .type "method-wrapper", dict := none, data := .fields #[.builtin "Exception.__init__", .ref e], slots := #[] })
    (he : h.get? e = some { cls := .ref C, dict := none, data := .fields #[.ref t0, .none, .none, .none, .bool false, .none] })
    (hC : h.get? C = some (excClassObj nm q C N bs bm hdct sn sub ab col dd k0 k1 k2 k3 k5 newId)) (hq : ∀ h', (∀ y o, y ≠ e → h.get? y = some o → h'.get? y = some o) → (∃ n, h.get? n = none ∧ h'.get? e = some { cls := .ref C, dict := none, data := .fields #[.ref n, .none, .none, .none, .bool false, .none] }) → R (.ok (.ret .none)) ⟨h', g, d, t, os⟩) :
    codeAny (model prog w) A (.call (.ref b) ⟨[.str x u], []⟩) R ⟨h, g, d, t, os⟩ := by
  refine call_wrap hb (Code.quiet_builtin _ (by decide +kernel)) (check_bound_init he rfl hC (code_builtin PySem.F.excBase_Exception.initEntry ?_))
  dsimp only
  unfold Builtin.«BaseException.__init__»
  wp_walk
  show R (.ok (.ret .none)) _
  have hne : h.objs.size ≠ e := Nat.ne_of_gt (Heap.lt_size he)
  refine hq _ (fun y o hy e1 => ?_) ⟨h.objs.size, Heap.get?_none_of_le (Nat.le_refl _), ?_⟩
  · rw [Heap.get?_update_other _ _ (fun q => hy q.symm)]
    exact Heap.get?_push_of_some _ e1
  · rw [Heap.get?_update_self _ (Heap.get?_push_of_some _ he) rfl]
    rfl
end
end Mine
end

section
set_option maxRecDepth 100000
set_option maxHeartbeats 4000000
open PySem PySem.W PySem.Calls PyProof.Rows
namespace Mine
theorem fresh_E5 : True := by
  w_top off
  trivial
section
variable {w : World} {A₀ A : Around} {base h₀ : Heap} {outer : List Env} {env : Env} {L : Addr} {m mg mb : Str → Option Value} {mean : ExcName → Option Value} {E : Value → Shared → Prop} {s : Shared} {nw : Led}
noncomputable abbrev wrapO (x : Addr) : Obj := { cls := .type "method-wrapper", dict := none, data := .fields #[.builtin "Exception.__init__", .ref x], slots := #[] }
theorem wrap_method {K : Frag} {so x t C D : Addr} {name : Str} {pl : Sem Bool} {Q : Value × List Value → Shared → Prop}
    {nm q : Str} {N₀ : Addr} {bs bm : List Value} {hdct : Bool} {sn : List Str} {sub : List Value} {ab : Bool} {col : Option Bool} {dd : Option Addr} {k0 k1 k2 k3 k5 : Option Value} {newId : String}
    (F : Fr h₀ L s.heap m) (X₀ : K.In h₀) (N : News h₀ L s.heap nw) (hso : (so, ks_superObj D x C) ∈ nw) (hx : (x, excO C t none) ∈ nw) (hK : K.lookup C = some (excClassObj nm q C N₀ bs bm hdct sn sub ab col dd k0 k1 k2 k3 k5 newId)) (ho : nsIn K cStatics "thirdparty.any" = some none)
    (hm : ks_superIn K C D name = some (some (.builtin "Exception.__init__"))) (hcont : (Value.ref C :: bm).contains (.type "Exception") = true) (hn : (name == ("__class__" : Str)) = false)
    (h : ∀ q h', Fr h₀ L h' m → News h₀ L h' ((q, wrapO x) :: nw) → (∀ p ∈ nw, p.1 < q) → Q (.ref q, []) { s with heap := h', toks := s.toks + 1 }) : wpAny (model PR w) A (getMethod (.ref so) name pl) Q E s := by
  have X : K.In s.heap := X₀.keeps F.keep
  obtain ⟨hh, g, d, t, os⟩ := s
  obtain ⟨cd, hc⟩ : ∃ cd, clsIn K C = some cd := ⟨_, by unfold clsIn; rw [hK]⟩
  unfold ks_superIn at hm
  rw [hc] at hm
  have I := inst_exc N hx
  refine super_wrap_method (N _ hso).1 (looks_opaque X ho) (l₀ := cd.mro) ?_ rfl X hm (ks_ne X I hc) hn (N _ hx).1 rfl (X _ _ hK) hcont ?_
  · exact fun A Q E s k q => wpAny_bind ((looks_clsIn X hc) A _ E s k (wpAny_pure q))
  · refine hide_goal fun kHide => ?_
    obtain ⟨F', N', l'⟩ := ks_newsPush (s := ⟨hh, g, d, t, os⟩) (o := wrapO x) F N rfl (Heap.get?_push_at rfl rfl) (fun b o e => Heap.get?_push_of_some _ e)
    refine kHide ?_
    clear kHide
    exact h _ _ F' N' l'
theorem keeps_wrap {M : Model} {q x : Addr} (h : Heap) (X : h.get? q = some (wrapO x)) : ∃ k, (k = Keeper.frame ∨ k = Keeper.machine ∨ k = Keeper.boundFrame) ∧ Looks M h (keeperOf (.ref q)) k :=
  ⟨.machine, .inr (.inl rfl), (Looks.ld (part := none) X).andThen .now⟩
theorem callWith_wrap {env' : Env} {pos : Pos} {first : List Value} {q x : Addr} {e : Expr} {rest : List Expr} {Q : Value → Shared → Prop} (h : wpAny (model PR w) A (spliced (backTo pos (starEach (e :: rest) env'))) (fun vs s₁ => s₁.heap.get? q = some (wrapO x) ∧ wpAny (model PR w) A (call (.ref q) (first ++ vs)) Q E s₁) E s)
    (he : starEach (e :: rest) env' = (false, eval e env') :: starEach rest env' := by rfl) (hplain : (backTo pos (starEach rest env')).any (·.1) = false := by rfl) :
    wpAny (model PR w) A (callWith pos (.ref q) first (backTo pos (starEach (e :: rest) env')) []) Q E s := by
  rw [he] at h ⊢
  exact callWith_of (by show ((false || (backTo pos (starEach rest env')).any (·.1)) || false) = false; rw [hplain]; rfl) keeps_wrap (evalArgs_plain h)
theorem wrap_call {K : Frag} {q e t C : Addr} {x : Str} {u : Tok} {g : Obj → Led} {Q : Value → Shared → Prop}
    {nm q' : Str} {N₀ : Addr} {bs bm : List Value} {hdct : Bool} {sn : List Str} {sub : List Value} {ab : Bool} {col : Option Bool} {dd : Option Addr} {k0 k1 k2 k3 k5 : Option Value} {newId : String}
    (F : Fr h₀ L s.heap m) (X : K.In h₀) (N : News h₀ L s.heap nw) (hq : (q, wrapO e) ∈ nw) (U : UpdF e (excO C t none) nw g) (hK : K.lookup C = some (excClassObj nm q' C N₀ bs bm hdct sn sub ab col dd k0 k1 k2 k3 k5 newId))
    (h : ∀ h' t', Fr h₀ L h' m → News h₀ L h' (g (excO C t' none)) → Q .none { s with heap := h' }) : wpAny (model PR w) A (call (.ref q) [.str x u]) Q E s := by
  refine hide_goal fun kHide => ?_
  obtain ⟨hm, tl, off, h₁, h₂, h₃⟩ := UpdF.far U
  refine kHide ?_
  clear kHide
  have X1 := X.keeps F.keep
  obtain ⟨hh, gg, d, tt, os⟩ := s
  have me := N _ hm
  refine wpAny_call (init_wrap (N _ hq).1 me.1 (X1 _ _ hK) fun h' keep ⟨n, _, he'⟩ => ?_)
  refine h h' n ⟨?_, fun b o e0 => ?_, F.above⟩ fun p hp => ?_
  · refine hide_goal fun kHide => ?_
    obtain ⟨o, es, ep, ho, r⟩ := F.ns
    refine kHide ?_
    clear kHide
    exact ⟨o, es, ep, keep _ _ (fun q => me.2.1 q.symm) ho, r⟩
  · exact keep b o (fun q => by rw [q, me.2.2] at e0; cases e0) (F.keep b o e0)
  · rcases h₃ _ p hp with rfl | hp
    · exact ⟨he', me.2⟩
    · have hpn := off p hp e (List.mem_singleton.mpr rfl)
      exact ⟨keep _ _ hpn (N p (h₂ p hp)).1, (N p (h₂ p hp)).2⟩
end
end Mine
end

section
set_option maxRecDepth 100000
set_option maxHeartbeats 4000000
open PySem PySem.W PySem.Calls PyProof.Rows PySem.Builtin PySem.Builtin.ObjectAttr
namespace Mine
theorem fresh_E6 : True := by
  w_top off
  trivial
section
variable {w : World} {A₀ A : Around} {base h₀ : Heap} {outer : List Env} {env : Env} {L : Addr} {m mg mb : Str → Option Value} {mean : ExcName → Option Value} {E : Value → Shared → Prop} {s : Shared} {nw : Led} {R : Result → Shared → Prop}
noncomputable abbrev excMro (C D : Addr) : List Value := [.ref C, .ref D, .type "Exception", .type "BaseException", .type "object"]
theorem exc_open {K : Frag} {x C D : Addr} {ox : Obj} {od : Option Obj} {cd : ClassData} {name : Str} {tk : Tok} {v : Value} (X : K.In s.heap) (I : PySem.W.InstAt s.heap x ox C od) (hc : clsIn K C = some cd) (hm : cd.mro = excMro C D) (ht : takerIn K C name = some none)
    (h : ∀ b, wpAny (model PR w) A.in1 (Builtin.ObjectAttr.storeInOwnDict (.ref x) (.ref C) (.str name tk) name v b)
      (fun fin s' => match fin with | .done f => R (.ok f) s' | .again c' => c'.quiet = true ∧ codeAny (model PR w) A c' R s') (fun e s' => R (.error e) s') s) :
    codeAny (model PR w) A (.call (.builtin "object.__setattr__") ⟨[.ref x, .str name tk, v], []⟩) R s := by
  have SF := PySem.F.store_object
  have sub : Looks (model PR w) s.heap (isInstance (.ref x) (.type "object")) true := I.type.andThen (looks_mroIn X (by unfold mroIn; rw [hc, Option.bind_some, hm]; rfl))
  refine codeAny_call_builtin SF.slot.plain SF.entry (@check_slot (model PR w) _ _ s "object.__setattr__" "object" "__setattr__" (.ref x) [.str name tk, v] [] _ SF.kind SF.split sub (SF.args (.ref x) (.str name tk) v) ?_)
  refine hide_goal fun kHide => ?_
  obtain ⟨attr, ha, hr⟩ := Option.bind_eq_some_iff.mp ht
  refine kHide ?_
  clear kHide
  have hm' : Looks (model PR w) s.heap (mroOf (.ref C)) cd.mro := (looks_clsIn X hc).andThen .now
  have L3 : Looks (model PR w) s.heap (storeTaker? attr) none := by
    cases attr with
    | none => exact .now
    | some a =>
      refine hide_goal fun kHide => ?_
      obtain ⟨b, hb, hbn⟩ := Option.map_eq_some_iff.mp hr
      refine kHide ?_
      clear kHide
      refine (looks_takesIn X hb).andThen ?_
      cases b
      · exact .now
      · cases hbn
  rw [osa_eq, refuse_eq]
  refine wpAny_bind (wpAny_bind (I.type.here (wpAny_bind (hm'.here ?_))))
  rw [hm, refuseLoop_ref, refuseLoop_ref, PySem.F.store_Exception.passes]
  refine wpAny_pure (wpAny_bind (I.type.here (wpAny_bind ((looks_findIn X ha).here (wpAny_bind (L3.here ?_))))))
  exact h _
theorem store_put {dx : Addr} {od od' : Obj} {name : Str} {tk : Tok} {v : Value} {pre post : Led} {es : List DictEntry} {n : Nat} {Q : Fin → Shared → Prop} (F : Fr h₀ L s.heap m) (N : News h₀ L s.heap (pre ++ (dx, od) :: post))
    (hl : (lookIn name od).isSome = true) (h1 : ∀ p ∈ pre, p.1 ≠ dx) (h2 : ∀ p ∈ post, p.1 ≠ dx)
    (e : Obj.putName name (PyData.keyHash w.params name) (.str name s.toks) v od = od') (e' : od'.data = .dict es.toArray n) (hz : es.length ≤ 1000)
    (h : ∀ h', Fr h₀ L h' m → News h₀ L h' (pre ++ (dx, od') :: post) → Q (.done (.ret .none)) { s with heap := h', toks := s.toks + 1 }) :
    wpAny (model PR w) A (storeInDict dx (.str name tk) name v) Q E s := by
  obtain ⟨U1, U2⟩ := news_upd (f := Obj.putName name (PyData.keyHash w.params name) (.str name s.toks) v) F N h1 h2 e (by obtain ⟨_, _, dd, _⟩ := od'; cases e'; rfl)
  have D := (N (dx, od) (by simp)).1
  have D' := (U2 (dx, od') (by simp)).1
  refine wpAny_bind (wpAny_pure (wpAny_bind ?_))
  unfold nsSet
  refine wpAny_bind (wpAny_bind (wpAny_askSetting (wpAny_pure (wpAny_bind (wpAny_mkText (wpAny_bind (wpAny_loadPart D ?_)))))))
  unfold lookIn at hl
  split at hl
  · rename_i es₀ n₀ q
    rw [q]
    dsimp only
    have c : (!es₀.any (·.key.isStr name) && es₀.any (·.refKey)) = false := by
      rw [← Array.any_toList, ← Array.any_toList]
      split at hl
      · rename_i en he
        rw [List.any_eq_true.mpr ⟨en, List.mem_of_find?_eq_some he, List.find?_some he⟩]; rfl
      · split at hl
        · cases hl
        · rename_i z; rw [Bool.not_eq_true] at z; rw [z, Bool.and_false]
    rw [aRefKeyMayBeTheName_at, c]
    refine wpAny_updatePart D ?_
    refine wpAny_bind (wpAny_lookBehind D' (by rw [e']; exact pastItsLine_dict (by rw [List.size_toArray, sizeLine_eq]; omega)) ?_)
    exact wpAny_pure (h _ U1 U2)
  · cases hl
/-- a store on an exception that has no dict yet -/
theorem osa_exc_new {K : Frag} {x t C D : Addr} {cd : ClassData} {name : Str} {tk : Tok} {v : Value} {g : Obj → Led} (F : Fr h₀ L s.heap m) (X : K.In h₀) (N : News h₀ L s.heap nw) (U : UpdF x (excO C t none) nw g) (hc : clsIn K C = some cd) (hd : cd.hasDict = true) (hm : cd.mro = excMro C D) (ht : takerIn K C name = some none)
    (h : ∀ dx h' t', Fr h₀ L h' m → News h₀ L h' ((dx, dictOf [{ hash := PyData.keyHash w.params name, key := .str name t', val := v }] 1) :: g (excO C t (some dx))) → (∀ p ∈ nw, p.1 < dx) → R (.ok (.ret .none)) { s with heap := h', toks := s.toks + 1 }) :
    codeAny (model PR w) A (.call (.builtin "object.__setattr__") ⟨[.ref x, .str name tk, v], []⟩) R s := by
  refine hide_goal fun kHide => ?_
  obtain ⟨hmm, tl, off, h₁, h₂, h₃⟩ := UpdF.far U
  refine kHide ?_
  clear kHide
  have X1 := X.keeps F.keep
  have mx := N _ hmm
  have N0 : News h₀ L s.heap ((x, excO C t none) :: tl) := N.perm fun p hp => by
    rcases List.mem_cons.mp hp with rfl | hp
    · exact hmm
    · exact h₂ p hp
  refine exc_open X1 (inst_exc N hmm) hc hm ht fun b => ?_
  refine wpAny_bind (wpAny_pure (wpAny_bind (wpAny_bind (wpAny_loadPart mx.1 (wpAny_bind ((looks_clsIn X1 hc).here ?_))))))
  rw [hd]
  refine wpAny_bind (wpAny_alloc' ?_)
  have N1 : News h₀ L (s.heap.push { cls := .type "dict", data := .dict #[] }) ((s.heap.objs.size, { cls := .type "dict", data := .dict #[] }) :: (x, excO C t none) :: tl) := N0.push F _
  have F1 := F.push { cls := .type "dict", data := .dict #[] }
  have lt : ∀ p ∈ nw, p.1 < s.heap.objs.size := fun p hp => Heap.lt_size (N p hp).1
  have hx1 := (N1 _ (List.mem_cons_of_mem _ (List.mem_cons_self ..))).1
  refine wpAny_bind (wpAny_update' hx1 ?_)
  obtain ⟨U1, U2⟩ := news_upd (pre := [(s.heap.objs.size, { cls := .type "dict", data := .dict #[] })]) (o' := excO C t (some s.heap.objs.size)) (f := fun o => { cls := o.cls, dict := some s.heap.objs.size, data := o.data, slots := o.slots }) F1 N1 (fun p hp => by
    rw [List.mem_singleton.mp hp]; exact Nat.ne_of_gt (lt _ hmm)) (fun p hp => off p hp x (List.mem_singleton.mpr rfl)) rfl rfl
  refine wpAny_pure ?_
  show wpAny _ _ (storeInDict s.heap.objs.size (.str name tk) name v) _ _ _
  refine store_put (pre := []) (od := { cls := .type "dict", data := .dict #[] }) (od' := dictOf [{ hash := PyData.keyHash w.params name, key := .str name s.toks, val := v }] 1) U1 U2 rfl (fun p hp => nomatch hp) (fun p hp => ?_) rfl rfl (by simp) fun h' F' N' => ?_
  · rcases List.mem_cons.mp hp with rfl | hp
    · exact Nat.ne_of_lt (lt (x, excO C t none) hmm)
    · exact Nat.ne_of_lt (lt _ (h₂ p hp))
  · refine h _ h' s.toks F' (N'.perm fun p hp => ?_) lt
    rcases List.mem_cons.mp hp with rfl | hp
    · exact List.mem_cons_self ..
    · rcases h₃ _ p hp with rfl | hp
      · exact List.mem_cons_of_mem _ (List.mem_cons_self ..)
      · exact List.mem_cons_of_mem _ (List.mem_cons_of_mem _ hp)
theorem exc_set_new {K : Frag} {x t C D : Addr} {cd : ClassData} {name : Str} {v : Value} {g : Obj → Led} {Q : Unit → Shared → Prop} (F : Fr h₀ L s.heap m) (X : K.In h₀) (N : News h₀ L s.heap nw) (U : UpdF x (excO C t none) nw g) (hc : clsIn K C = some cd) (hd : cd.hasDict = true) (hm : cd.mro = excMro C D)
    (hs : findIn K (.ref C) "__setattr__" = some (some (.builtin "object.__setattr__"))) (ht : takerIn K C name = some none)
    (h : ∀ dx h' tk' t', Fr h₀ L h' m → News h₀ L h' ((dx, dictOf [{ hash := PyData.keyHash w.params name, key := .str name t', val := v }] 1) :: g (excO C t (some dx))) → (∀ p ∈ nw, p.1 < dx) → Q () { s with heap := h', toks := tk' }) :
    wpAny (model PR w) A (setAttr (.ref x) name v) Q E s :=
  set_plain (X.keeps F.keep) (inst_exc N (UpdF.far U).1) hs (osa_exc_new (s := { s with toks := s.toks + 1 }) F X N U hc hd hm ht fun dx h' t' F' N' l' => h dx h' _ t' F' N' l')
theorem inst_exc2 {h : Heap} {e t C dx : Addr} {od : Obj} (N : News h₀ L h nw) (hm : (e, excO C t (some dx)) ∈ nw) (hm2 : (dx, od) ∈ nw) : PySem.W.InstAt h e (excO C t (some dx)) C (some od) := ⟨(N _ hm).1, rfl, rfl, (N _ hm2).1⟩
/-- a store on an exception that has one -/
theorem exc_set_old {K : Frag} {x t C D dx : Addr} {cd : ClassData} {name : Str} {v : Value} {es es' : List DictEntry} {n n' : Nat} {g : Obj → Led} {Q : Unit → Shared → Prop} (F : Fr h₀ L s.heap m) (X : K.In h₀) (N : News h₀ L s.heap nw) (hx : (x, excO C t (some dx)) ∈ nw) (U : UpdF dx (dictOf es n) nw g) (hc : clsIn K C = some cd) (hd : cd.hasDict = true) (hm : cd.mro = excMro C D)
    (hs : findIn K (.ref C) "__setattr__" = some (some (.builtin "object.__setattr__"))) (ht : takerIn K C name = some none) (hl : (getL name es).isSome = true)
    (e : (putL name (PyData.keyHash w.params name) (.str name (s.toks + 1)) v es, putN name es n) = (es', n')) (hz : es'.length ≤ 1000)
    (h : ∀ h', Fr h₀ L h' m → News h₀ L h' (g (dictOf es' n')) → Q () { s with heap := h', toks := s.toks + 2 }) :
    wpAny (model PR w) A (setAttr (.ref x) name v) Q E s := by
  refine hide_goal fun kHide => ?_
  obtain ⟨pre, post, rfl, hg, a, b⟩ := U.split
  obtain ⟨e1, e2⟩ := Prod.mk.inj e
  refine kHide ?_
  clear kHide
  have X1 := X.keeps F.keep
  have hdx : (dx, dictOf es n) ∈ pre ++ (dx, dictOf es n) :: post := List.mem_append_right _ (List.mem_cons_self ..)
  have mx := N _ hx
  refine set_plain X1 (inst_exc2 N hx hdx) hs (exc_open (s := { s with toks := s.toks + 1 }) X1 (inst_exc2 N hx hdx) hc hm ht fun b0 => ?_)
  refine wpAny_bind (wpAny_pure (wpAny_bind (wpAny_bind (wpAny_loadPart mx.1 (wpAny_bind ((looks_clsIn X1 hc) _ _ _ _ (fun _ _ e => e) ?_))))))
  rw [hd]
  refine wpAny_pure ?_
  refine store_put (s := { s with toks := s.toks + 1 }) F N hl a b (by rw [putName_dict, e1, e2]) rfl hz fun h' F' N' => ?_
  exact h h' F' (hg _ ▸ N')
end
end Mine
end

section
set_option maxRecDepth 100000
set_option maxHeartbeats 4000000
open PySem PySem.W PySem.Calls PyProof.Rows
namespace Mine
theorem fresh_E7 : True := by
  w_top off
  trivial
section
variable {w : World} {A₀ A : Around} {base h₀ : Heap} {outer : List Env} {env : Env} {L : Addr} {m mg mb : Str → Option Value} {mean : ExcName → Option Value} {E : Value → Shared → Prop} {s : Shared} {nw : Led}
local macro_rules | `(tactic| k_inst) => `(tactic| exact inst_exc (by assumption) (by k_mem))
local macro_rules | `(tactic| k_all) => `(tactic| (with_reducible refine OwnOff.ne (by assumption) ?_; k_mem))
theorem news_pick {h : Heap} {a b : Addr × Obj} {l tl : Led} (N : News h₀ L h l) (ha : a ∈ l) (hb : b ∈ l) (ht : ∀ p ∈ tl, p ∈ l) : News h₀ L h (a :: b :: tl) := N.perm fun p hp => by
  rcases List.mem_cons.mp hp with rfl | hp
  · exact ha
  · rcases List.mem_cons.mp hp with rfl | hp
    · exact hb
    · exact ht p hp
noncomputable abbrev faultD (w : World) (wh : Str) (wt : Tok) (n : Int) (nt ta tb : Tok) : Obj := dictOf [{ hash := PyData.keyHash w.params (Str.ofString "what"), key := .str (Str.ofString "what") ta, val := .str wh wt }, { hash := PyData.keyHash w.params (Str.ofString "step"), key := .str (Str.ofString "step") tb, val := .int n nt }] 2
theorem init76 {e t : Addr} {wh : Str} {n : Int} {wt nt : Tok} {Q : Value → Shared → Prop} (G : Gr w A₀ base h₀ outer mean mg mb) (a : Ar 26 60 A env outer L) (F : Fr h₀ L s.heap m)
    (N : News h₀ L s.heap ((e, excO 76 t none) :: (t, tupO #[.str wh wt, .int n nt] 0) :: nw)) (off : OwnOff nw [e]) (het : @Ne Nat e t)
    (h : ∀ h' tk' t' dx ta tb, Fr h₀ L h' m → News h₀ L h' ((dx, faultD w wh wt n nt ta tb) :: (e, excO 76 t' (some dx)) :: nw) → AllLt dx nw → @LT.lt Nat _ e dx → Q .none { s with heap := h', toks := tk' }) :
    wpAny (model PR w) A (call (.ref 66) [.ref e, .str wh wt, .int n nt]) Q E s := by
  obtain ⟨hd, dp, fr, gs, u⟩ := A
  obtain ⟨⟨kd, nm, ig, ic, mo⟩, lc, gl, ce, ql, fu, co, frm, bt⟩ := env
  refine hide_goal fun kHide => ?_
  obtain ⟨rfl, rfl, hdp, hun, hlo, hki⟩ := a
  refine kHide ?_
  clear kHide
  dsimp only at hlo hki
  subst hlo hki
  refine hide_goal fun kHide => ?_
  obtain ⟨B, X, T⟩ := G
  refine kHide ?_
  clear kHide
  have fill : (∀ P : Params, Ahead.heap_1_39 P = Ahead.heap_1_39 P) ∧ PySem.Challenge.rw_qd0004_01 = PySem.Challenge.rw_qd0004_01 := by
    k_fill
    exact ⟨fun _ => rfl, rfl⟩
  clear fill
  dsimp only at hdp hun
  refine wpAny_call ?_
  ks_enter
  k_steps
  k_dflt (refine' wrap_method (C := 76) (D := 47) (t := t) (by assumption) (by assumption) (by assumption) (by k_mem) (by k_mem) ?a1 ?a2 ?a3 ?a4 ?a5 ?_)
  case a1 => k_dflt k_is
  case a2 => k_dflt k_is
  case a3 => k_dflt ks_is
  case a4 => decide +kernel
  case a5 => decide
  intro qw h5 F5 N5 l5
  k_lt l5
  dsimp only
  refine callWith_wrap (x := e) ?_
  k_steps
  · rename News _ _ _ ((qw, _) :: _) => kN
    exact (kN _ (List.mem_cons_self ..)).1
  rename News _ _ _ ((qw, _) :: _) => kN
  k_dflt (refine' wrap_call (C := 76) (t := t) (by assumption) (by assumption) kN (List.mem_cons_self ..) ?b1 ?b2 ?_)
  case b1 => k_updF
  case b2 => k_dflt k_is
  intro h6 t6 F6 N6
  dsimp only at N6 ⊢
  k_steps
  k_dflt (refine' exc_set_new (C := 76) (D := 47) (t := t6) (by assumption) (by assumption) (by assumption) ?d1 ?d2 ?d3 ?d4 ?d5 ?d6 ?_)
  case d1 => k_updF
  case d2 => k_dflt k_is
  case d3 => rfl
  case d4 => rfl
  case d5 => k_dflt k_is
  case d6 => k_dflt k_is
  intro dx h7 tk7 t7 F7 N7 l7
  have l7c := l7
  k_lt l7
  dsimp only at N7 ⊢
  k_steps
  k_dflt (refine' exc_set_old (C := 76) (D := 47) (t := t6) (dx := dx) (by assumption) (by assumption) (by assumption) ?e0 ?e1 ?e2 ?e3 ?e4 ?e5 ?e6 ?e7 ?e8 ?e9 ?_)
  case e0 => k_mem
  case e1 => k_updF
  case e2 => k_dflt k_is
  case e3 => rfl
  case e4 => rfl
  case e5 => k_dflt k_is
  case e6 => k_dflt k_is
  case e7 => k_get
  case e8 => k_put
  case e9 => exact Nat.le_of_ble_eq_true rfl
  intro h8 F8 N8
  dsimp only at N8 ⊢
  k_steps
  rename Fr h₀ _ _ _ => kF
  rename News h₀ _ _ _ => kN
  k_dflt (refine' h _ _ t6 dx _ _ kF (news_pick kN ?m1 ?m2 ?m3) (allLt_of fun p hp => l7c p ?m4) (l7c (e, excO 76 t6 none) ?m5))
  case m1 => k_mem
  case m2 => k_mem
  case m3 =>
    intro p hp
    repeat (first | exact hp | refine List.Mem.tail _ ?_)
  case m4 => repeat (first | exact hp | refine List.Mem.tail _ ?_)
  case m5 => k_mem
end
end Mine
end

section
set_option maxRecDepth 100000
set_option maxHeartbeats 4000000
open PySem PySem.W PySem.Calls PyProof.Rows
namespace Mine
theorem fresh_E8 : True := by
  w_top off
  trivial
section
variable {w : World} {A₀ A : Around} {base h₀ : Heap} {outer : List Env} {env : Env} {L : Addr} {m mg mb : Str → Option Value} {mean : ExcName → Option Value} {E : Value → Shared → Prop} {s : Shared} {nw : Led}
theorem fault_K {wh : Str} {n : Int} {wt nt : Tok} {Q : Value → Shared → Prop} (G : Gr w A₀ base h₀ outer mean mg mb) (a : Ar 28 64 A env outer L) (F : Fr h₀ L s.heap m) (N : News h₀ L s.heap nw)
    (h : ∀ e dx t ta tb h' tk', Fr h₀ L h' m → News h₀ L h' ((dx, faultD w wh wt n nt ta tb) :: (e, excO 76 t (some dx)) :: nw) → OwnOff nw [e, dx] → @Ne Nat e dx → Q (.ref e) { s with heap := h', toks := tk' }) :
    wpAny (model PR w) A (call (.ref 76) [.str wh wt, .int n nt]) Q E s := by
  refine fault_new G.X F N fun e t h1 F1 N1 off het => ?_
  have a' : Ar 26 60 (A.under (.builtin "type.__call__" ⟨.ref 76 :: [.str wh wt, .int n nt], []⟩)) env outer L := by
    refine hide_goal fun kHide => ?_
    obtain ⟨x1, x2, x3, x4, x5, x6⟩ := a
    refine kHide ?_
    clear kHide
    exact ⟨x1, x2, by have : (A.under (.builtin "type.__call__" ⟨.ref 76 :: [.str wh wt, .int n nt], []⟩)).depth = A.depth + 1 := rfl; omega, by have : (A.under (.builtin "type.__call__" ⟨.ref 76 :: [.str wh wt, .int n nt], []⟩)).units = A.units + 1 := rfl; omega, x5, x6⟩
  refine init76 (nw := nw) G a' F1 N1 (fun p hp b hb => by rw [List.mem_singleton.mp hb]; exact (off p hp).1) het fun h2 tk t' dx ta tb F2 N2 lt2 lt3 => ⟨rfl, ?_⟩
  refine h e dx t' ta tb h2 tk F2 N2 (fun p hp b hb => ?_) (Nat.ne_of_lt lt3)
  rcases List.mem_cons.mp hb with rfl | hb
  · exact (off p hp).1
  · rw [List.mem_singleton.mp hb]; exact Nat.ne_of_lt (allLt_mem lt2 p hp)
end
end Mine
end

section
set_option maxRecDepth 100000
set_option maxHeartbeats 4000000
open PySem PySem.W PySem.Calls PyProof.Rows
namespace Mine
theorem fresh_E9 : True := by
  w_top off
  trivial
section
variable {M : Model} {A : Around} {E : Value → Shared → Prop} {s : Shared} {env : Env}
variable {nm q : Str} {C N : Addr} {bs bm : List Value} {hdct : Bool} {sn : List Str} {sub : List Value} {ab : Bool} {col : Option Bool} {dd : Option Addr} {k0 k1 k2 k3 k5 : Option Value} {newId : String}
theorem raise_made {x : Sem Value} {Q : Flow → Shared → Prop} (hbase : bm.contains (.type "BaseException") = true) (hh : A.handled = none)
    (h : wpAny M A x (fun v s₁ => ∃ e t dx, v = .ref e ∧ s₁.heap.get? C = some (excClassObj nm q C N bs bm hdct sn sub ab col dd k0 k1 k2 k3 k5 newId) ∧
      s₁.heap.get? e = some (excO C t (some dx)) ∧ E (.ref e) s₁) E s) :
    wpAny M A (raiseStmt env (some x) none) Q E s := by
  have hcB : (Value.ref C :: bm).contains (.type "BaseException") = true := by rw [List.contains_cons, hbase, Bool.or_true]
  unfold raiseStmt
  refine wpAny_bind (wpAny_mono h (fun v s₁ h₁ => ?_) fun _ _ x => x)
  refine hide_goal fun kHide => ?_
  obtain ⟨e, t, dx, rfl, hC, he, hE⟩ := h₁
  obtain ⟨hp, g, d, tk, os⟩ := s₁
  refine kHide ?_
  clear kHide
  repeat (first | with_reducible refine wpAny_loadPart_at he ?_ | with_reducible refine wpAny_loadPart_at hC ?_ | (with_reducible refine wpAny_isSubtype_exc hC ?_; rw [hcB]) | wp_step)
  exact wpAny_raiseNew_none hh hE
end
section
variable {prog : Program} {w : World} {A : Around} {E : Value → Shared → Prop} {s : Shared} {env : Env}
variable {nm q : Str} {C N : Addr} {bs bm : List Value} {hdct : Bool} {sn : List Str} {sub : List Value} {ab : Bool} {col : Option Bool} {dd : Option Addr} {k0 k1 k2 k3 k5 : Option Value} {newId : String}
theorem exc_raise {e₀ : PySem.Expr} {pos : Pos} {Q : Flow → Shared → Prop} (hbase : bm.contains (.type "BaseException") = true) (hh : A.handled = none)
    (h : wpAny (model prog w) A (eval e₀ env) (fun v s₁ => ∃ e t dx, v = .ref e ∧ s₁.heap.get? C = some (excClassObj nm q C N bs bm hdct sn sub ab col dd k0 k1 k2 k3 k5 newId) ∧
      s₁.heap.get? e = some (excO C t (some dx)) ∧ E (.ref e) s₁) E s) :
    wpAny (model prog w) A (exec (.Raise (some e₀) none pos) env) Q E s := by
  rw [arm_exec_Raise]
  first
    | exact wpAny_bind (wpAny_standAt (raise_made hbase hh (wpAny_bind (wpAny_mono h (fun v s₃ h₃ => wpAny_bind (wpAny_standAt (wpAny_pure h₃))) fun _ _ x => x))))
    | (simp only [evalOpt, Option.map]; exact wpAny_bind (wpAny_standAt (raise_made hbase hh (wpAny_bind (wpAny_mono h (fun v s₃ h₃ => wpAny_bind (wpAny_standAt (wpAny_pure h₃))) fun _ _ x => x)))))
    | exact wpAny_bind (wpAny_standAt (raise_made hbase hh h))
/-- how a raise of ProofFault ends -/
noncomputable def RaiseEnd (w : World) (E : Value → Shared → Prop) (v : Value) (s₁ : Shared) : Prop :=
  ∃ e t dx, v = .ref e ∧ (Ahead.heap_1_39 w.params).In s₁.heap ∧ s₁.heap.get? e = some (excO 76 t (some dx)) ∧ E (.ref e) s₁
theorem exc_raise76 {e₀ : PySem.Expr} {pos : Pos} {Q : Flow → Shared → Prop} (hh : A.handled = none)
    (h : wpAny (model prog w) A (eval e₀ env) (RaiseEnd w E) E s) :
    wpAny (model prog w) A (exec (.Raise (some e₀) none pos) env) Q E s := by
  have fill : (∀ P : Params, Ahead.heap_1_39 P = Ahead.heap_1_39 P) ∧ PySem.Challenge.rw_qd0004_01 = PySem.Challenge.rw_qd0004_01 := by
    k_fill
    exact ⟨fun _ => rfl, rfl⟩
  clear fill
  refine' exc_raise (C := 76) ?hb hh (wpAny_mono h (fun v s₁ hv => ?main) fun _ _ x => x)
  case main =>
    refine hide_goal fun kHide => ?_
    obtain ⟨e, t, dx, rfl, X, he, hE⟩ := hv
    refine kHide ?_
    clear kHide
    exact ⟨e, t, dx, rfl, X 76 _ (by k_dflt k_is), he, hE⟩
  case hb => decide +kernel
end
end Mine
end

section
set_option maxRecDepth 100000
set_option maxHeartbeats 4000000
open PySem
namespace Mine
theorem fresh_E10 : True := by
  w_top off
  trivial
theorem dict_mapFields (o : Obj) (f : Array Value → Array Value) : (o.mapFields f).dict = o.dict := by
  refine hide_goal fun kHide => ?_
  obtain ⟨c, d, dt, sl⟩ := o
  refine kHide ?_
  clear kHide
  cases dt <;> rfl
/-- an exception with an entry of its way, and its dict -/
noncomputable def TracedD (h base : Heap) (e : Addr) (cls a0 : Value) (d : Option Addr) : Prop :=
  ∃ oe vs T oT ts, h.get? e = some oe ∧ (oe.cls = cls ∧ oe.dict = d ∧ vs[0]? = some a0) ∧ oe.data = .fields vs ∧ vs[1]? = some (.ref T) ∧ base.get? T = none ∧ T ≠ e ∧ h.get? T = some oT ∧ oT.data = .fields ts ∧ ts[3]? = some .none
noncomputable def LeftD (base : Heap) (l : List Env) (e : Addr) (cls a0 : Value) (d : Option Addr) (h h' : Heap) : Prop :=
  base.StaysIn h' ∧ h'.FunFrames base l ∧ TracedD h' base e cls a0 d ∧
    ∀ b o, h.get? b = some o → (∀ vs, o.data ≠ .fields vs) → ∃ sl, h'.get? b = some { o with slots := sl }
section
variable {M : Model} {A : Around} {E : Value → Shared → Prop} {s : Shared}
theorem newEntryD {base : Heap} {env : Env} {outer : List Env} {L e : Addr} {oe : Obj} {vs : Array Value} {head a0 : Value} {hadNext : Bool} {Q : Unit → Shared → Prop}
    (hfr : A.frames = some (env :: outer)) (hl : s.heap.FunFrames base (env :: outer)) (hf : env.frame = some L)
    (he : s.heap.get? e = some oe) (hkb : base.StaysIn s.heap) (hen : base.get? e = none) (hd : oe.data = .fields vs) (hsz : 1 < vs.size) (h0 : vs[0]? = some a0)
    (h : ∀ h', LeftD base (env :: outer) e oe.cls a0 oe.dict s.heap h' → Q () { s with heap := h' }) :
    wpAny M A (do let a ← frameOf env; let pl ← entryPlaceOf L hadNext; let b ← EntryCells.newEntry head a .none (rawInt L) .none pl; setField (.ref e) 1 b) (fun _ s' => wpAny M A (setFlight (.ref e) none) Q E s') E s := by
  have hene : e ∉ (env :: outer).filterMap (·.frame) := fun hm => by
    refine hide_goal fun kHide => ?_
    obtain ⟨_, o, ho, hnf⟩ := hl.mem hm
    refine kHide ?_
    clear kHide
    rw [he] at ho; injection ho with ho; subst ho; exact hnf vs hd
  refine wpAny_bind (wpAny_frameOf_fun hfr hl hf fun h₁ hs₁ => ?_)
  refine wpAny_bind (wpAny_entryPlaceOf fun pl hpl => ?_)
  unfold EntryCells.newEntry newFields
  refine wpAny_bind (wpAny_newObj_type ?_ (hpl.sizeOk5 _ _ _ _ _))
  have he₁ : h₁.get? e = some oe := (hs₁.2.1 e hene).trans he
  have kb₁ : base.StaysIn h₁ := fun b o hbo => (hs₁.2.1 b fun hm => by rw [(hl.mem hm).1] at hbo; cases hbo).trans (hkb b o hbo)
  have he₂ := Heap.get?_push_of_some (h := h₁) { cls := .type "traceback", dict := none, data := .fields ([head, .ref L, .none, rawInt L, .none] ++ (if pl.isEmpty then List.replicate 6 Value.none else pl)).toArray } he₁
  refine wpAny_setField he₂ hd hsz ?_
  have hTe : h₁.objs.size ≠ e := Nat.ne_of_gt (Heap.lt_size he₁)
  have hd₃ := Obj.data_mapFields hd (·.setIfInBounds 1 (Value.ref h₁.objs.size))
  have he₃ := Heap.get?_update_self (Obj.mapFields (·.setIfInBounds 1 (Value.ref h₁.objs.size))) he₂ (Obj.isFreed_of_fields hd₃)
  have hT₃ := (Heap.get?_update_other (h₁.push { cls := .type "traceback", dict := none, data := .fields ([head, .ref L, .none, rawInt L, .none] ++ (if pl.isEmpty then List.replicate 6 Value.none else pl)).toArray })
    (Obj.mapFields (·.setIfInBounds 1 (Value.ref h₁.objs.size))) (Ne.symm hTe)).trans (Heap.get?_push_size h₁ rfl)
  unfold setFlight
  refine wpAny_bind (wpAny_field he₃ hd₃ (x := .ref h₁.objs.size) (by simp [hsz]) ?_)
  rw [if_pos (show (Value.ref h₁.objs.size != Value.none) = true from by simp)]
  refine wpAny_setField hT₃ rfl (by simp only [List.size_toArray, List.length_append, List.length_cons, List.length_nil] <;> omega) (h _ ?_)

  have keep : ∀ b o, b ≠ e → h₁.get? b = some o →
      (((h₁.push { cls := .type "traceback", dict := none, data := .fields ([head, .ref L, .none, rawInt L, .none] ++ (if pl.isEmpty then List.replicate 6 Value.none else pl)).toArray }).update e (Obj.mapFields (·.setIfInBounds 1 (Value.ref h₁.objs.size)))).update h₁.objs.size
        (Obj.mapFields (·.setIfInBounds 3 ((none : Option Addr).elim Value.none fun f => rawInt f)))).get? b = some o := fun b o hbe hb => by
    have hbT : h₁.objs.size ≠ b := Nat.ne_of_gt (Heap.lt_size hb)
    rw [Heap.get?_update_other _ _ hbT, Heap.get?_update_other _ _ (Ne.symm hbe)]
    exact Heap.get?_push_of_some _ hb
  have noRecord : ∀ b o, s.heap.get? b = some o → (∀ vs, o.data ≠ .fields vs) → b ≠ e := fun b o hb hnf q => by
    rw [q, he] at hb; injection hb with hb; subst hb; exact hnf vs hd
  refine ⟨fun b o hbo => keep b o (fun q => by rw [q, hen] at hbo; cases hbo) (kb₁ b o hbo), hl.of_keeps fun b o hb hnf => ?_, ?_, fun b o hb hnf => ?_⟩
  · refine hide_goal fun kHide => ?_
    obtain ⟨sl, hs⟩ := hs₁.2.2 b o hb
    refine kHide ?_
    clear kHide
    exact ⟨_, keep b _ (noRecord b o hb hnf) hs, rfl⟩
  · refine ⟨_, _, h₁.objs.size, _, _, ?_, ⟨Obj.cls_mapFields _ _, dict_mapFields _ _, by rw [Array.getElem?_setIfInBounds_ne (by decide)]; exact h0⟩, hd₃, by simp [hsz], kb₁.fresh, hTe, Heap.get?_update_self _ hT₃ (Obj.isFreed_of_fields (Obj.data_mapFields rfl _)), Obj.data_mapFields rfl _, by first | (simp; done) | (rcases hpl with rfl | ⟨_, _, _, _, _, _, _, rfl⟩ <;> simp)⟩
    rw [Heap.get?_update_other _ _ hTe]; exact he₃
  · refine hide_goal fun kHide => ?_
    obtain ⟨sl, hs⟩ := hs₁.2.2 b o hb
    refine kHide ?_
    clear kHide
    exact ⟨sl, keep b _ (noRecord b o hb hnf) hs⟩

theorem leaving_firstD {base : Heap} {env : Env} {outer : List Env} {L e : Addr} {oe : Obj} {vs : Array Value} {a0 : Value} {Q : Unit → Shared → Prop}
    (hfr : A.frames = some (env :: outer)) (hl : s.heap.FunFrames base (env :: outer)) (hf : env.frame = some L)
    (he : s.heap.get? e = some oe) (hkb : base.StaysIn s.heap) (hen : base.get? e = none) (hd : oe.data = .fields vs) (h1 : vs[1]? = some .none) (h0 : vs[0]? = some a0)
    (h : ∀ h', LeftD base (env :: outer) e oe.cls a0 oe.dict s.heap h' → Q () { s with heap := h' }) : wpAny M A (leaving env (.ref e)) Q E s := by
  unfold leaving noteFrame
  simp only [hf]
  refine wpAny_bind (wpAny_bind (wpAny_field he hd h1 ?_))
  rw [if_neg (by decide)]
  exact newEntryD hfr hl hf he hkb hen hd (Array.getElem?_eq_some_iff.mp h1).1 h0 h
end
end Mine
end

section
set_option maxRecDepth 100000
set_option maxHeartbeats 4000000
open PySem
namespace Mine
theorem fresh_E11 : True := by
  w_top off
  trivial
noncomputable def TracedAtD (h base : Heap) (e : Addr) (cls a0 fl : Value) (d : Option Addr) : Prop :=
  ∃ oe vs T oT ts, h.get? e = some oe ∧ (oe.cls = cls ∧ oe.dict = d ∧ vs[0]? = some a0) ∧ oe.data = .fields vs ∧ vs[1]? = some (.ref T) ∧ base.get? T = none ∧ T ≠ e ∧ h.get? T = some oT ∧ oT.data = .fields ts ∧ ts[3]? = some fl
noncomputable def NotedD (base : Heap) (l : List Env) (e : Addr) (cls a0 fl : Value) (d : Option Addr) (h h' : Heap) : Prop :=
  base.StaysIn h' ∧ h'.FunFrames base l ∧ TracedAtD h' base e cls a0 fl d ∧ ∀ b o, h.get? b = some o → (∀ vs, o.data ≠ .fields vs) → ∃ sl, h'.get? b = some { o with slots := sl }
section
variable {M : Model} {A : Around} {E : Value → Shared → Prop} {s : Shared}
theorem entryD {base : Heap} {env : Env} {outer : List Env} {L e : Addr} {oe : Obj} {vs : Array Value} {head a0 : Value} {hadNext : Bool} {Q : Unit → Shared → Prop}
    (hfr : A.frames = some (env :: outer)) (hl : s.heap.FunFrames base (env :: outer)) (hf : env.frame = some L)
    (he : s.heap.get? e = some oe) (hkb : base.StaysIn s.heap) (hen : base.get? e = none) (hd : oe.data = .fields vs) (hsz : 1 < vs.size) (h0 : vs[0]? = some a0)
    (h : ∀ h', NotedD base (env :: outer) e oe.cls a0 (rawInt L) oe.dict s.heap h' → Q () { s with heap := h' }) :
    wpAny M A (do let a ← frameOf env; let pl ← entryPlaceOf L hadNext; let b ← EntryCells.newEntry head a .none (rawInt L) .none pl; setField (.ref e) 1 b) Q E s := by
  have hene : e ∉ (env :: outer).filterMap (·.frame) := fun hm => by
    refine hide_goal fun kHide => ?_
    obtain ⟨_, o, ho, hnf⟩ := hl.mem hm
    refine kHide ?_
    clear kHide
    rw [he] at ho; injection ho with ho; subst ho; exact hnf vs hd
  refine wpAny_bind (wpAny_frameOf_fun hfr hl hf fun h₁ hs₁ => ?_)
  refine wpAny_bind (wpAny_entryPlaceOf fun pl hpl => ?_)
  unfold EntryCells.newEntry newFields
  refine wpAny_bind (wpAny_newObj_type ?_ (hpl.sizeOk5 _ _ _ _ _))
  have he₁ : h₁.get? e = some oe := (hs₁.2.1 e hene).trans he
  have kb₁ : base.StaysIn h₁ := fun b o hbo => (hs₁.2.1 b fun hm => by rw [(hl.mem hm).1] at hbo; cases hbo).trans (hkb b o hbo)
  have he₂ := Heap.get?_push_of_some (h := h₁) { cls := .type "traceback", dict := none, data := .fields ([head, .ref L, .none, rawInt L, .none] ++ (if pl.isEmpty then List.replicate 6 Value.none else pl)).toArray } he₁
  refine wpAny_setField he₂ hd hsz (h _ ?_)
  have hTe : h₁.objs.size ≠ e := Nat.ne_of_gt (Heap.lt_size he₁)
  have hd₃ := Obj.data_mapFields hd (·.setIfInBounds 1 (Value.ref h₁.objs.size))
  have he₃ := Heap.get?_update_self (Obj.mapFields (·.setIfInBounds 1 (Value.ref h₁.objs.size))) he₂ (Obj.isFreed_of_fields hd₃)
  have hT₃ := (Heap.get?_update_other (h₁.push { cls := .type "traceback", dict := none, data := .fields ([head, .ref L, .none, rawInt L, .none] ++ (if pl.isEmpty then List.replicate 6 Value.none else pl)).toArray })
    (Obj.mapFields (·.setIfInBounds 1 (Value.ref h₁.objs.size))) (Ne.symm hTe)).trans (Heap.get?_push_size h₁ rfl)
  have keep : ∀ b o, b ≠ e → h₁.get? b = some o →
      ((h₁.push { cls := .type "traceback", dict := none, data := .fields ([head, .ref L, .none, rawInt L, .none] ++ (if pl.isEmpty then List.replicate 6 Value.none else pl)).toArray }).update e (Obj.mapFields (·.setIfInBounds 1 (Value.ref h₁.objs.size)))).get? b = some o :=
    fun b o hbe hb => by
      rw [Heap.get?_update_other _ _ (Ne.symm hbe)]
      exact Heap.get?_push_of_some _ hb
  have noRecord : ∀ b o, s.heap.get? b = some o → (∀ vs, o.data ≠ .fields vs) → b ≠ e := fun b o hb hnf q => by
    rw [q, he] at hb; injection hb with hb; subst hb; exact hnf vs hd
  refine ⟨fun b o hbo => keep b o (fun q => by rw [q, hen] at hbo; cases hbo) (kb₁ b o hbo), hl.of_keeps fun b o hb hnf => ?_, ?_, fun b o hb hnf => ?_⟩
  · refine hide_goal fun kHide => ?_
    obtain ⟨sl, hs⟩ := hs₁.2.2 b o hb
    refine kHide ?_
    clear kHide
    exact ⟨_, keep b _ (noRecord b o hb hnf) hs, rfl⟩
  · exact ⟨_, _, h₁.objs.size, _, _, he₃, ⟨Obj.cls_mapFields _ _, dict_mapFields _ _, by rw [Array.getElem?_setIfInBounds_ne (by decide)]; exact h0⟩, hd₃, by simp [hsz], kb₁.fresh, hTe, hT₃, rfl, by first | (simp; done) | (rcases hpl with rfl | ⟨_, _, _, _, _, _, _, rfl⟩ <;> simp)⟩
  · refine hide_goal fun kHide => ?_
    obtain ⟨sl, hs⟩ := hs₁.2.2 b o hb
    refine kHide ?_
    clear kHide
    exact ⟨sl, keep b _ (noRecord b o hb hnf) hs⟩

theorem noteFrame_onD {base : Heap} {env : Env} {outer : List Env} {L e : Addr} {cls a0 : Value} {dd : Option Addr} {Q : Unit → Shared → Prop}
    (hfr : A.frames = some (env :: outer)) (hl : s.heap.FunFrames base (env :: outer)) (hf : env.frame = some L) (ht : TracedD s.heap base e cls a0 dd) (hkb : base.StaysIn s.heap) (hen : base.get? e = none)
    (h : ∀ h', NotedD base (env :: outer) e cls a0 (rawInt L) dd s.heap h' → Q () { s with heap := h' }) : wpAny M A (noteFrame (.ref e) env) Q E s := by
  refine hide_goal fun kHide => ?_
  obtain ⟨oe, vs, T, oT, ts, he, ⟨hcls, hdd, h0⟩, hd, h1, hnT, hTe, hT, hdT, h3⟩ := ht
  refine kHide ?_
  clear kHide
  subst hcls hdd
  unfold noteFrame
  simp only [hf]
  refine wpAny_bind (wpAny_field he hd h1 ?_)
  rw [if_pos (show (Value.ref T != Value.none) = true from by simp)]
  refine wpAny_bind (wpAny_field hT hdT h3 ?_)
  rw [if_neg (show ¬ ((Value.none == rawInt L) = true) from by simp [rawInt])]
  refine wpAny_bind (wpAny_setField hT hdT (Array.getElem?_eq_some_iff.mp h3).1 ?_)
  have other : ∀ b, b ≠ T → (s.heap.update T (Obj.mapFields (·.setIfInBounds 3 Value.none))).get? b = s.heap.get? b := fun b hb => Heap.get?_update_other _ _ (Ne.symm hb)
  have noRecord : ∀ b o, s.heap.get? b = some o → (∀ vs, o.data ≠ .fields vs) → b ≠ T := fun b o hb hnf q => by
    rw [q, hT] at hb; injection hb with hb; subst hb; exact hnf ts hdT
  refine entryD hfr (hl.of_keeps fun b o hb hnf => ⟨o, (other b (noRecord b o hb hnf)).trans hb, rfl⟩) hf ((other e (Ne.symm hTe)).trans he)
    (fun b o hbo => (other b fun q => by rw [q, hnT] at hbo; cases hbo).trans (hkb b o hbo)) hen hd (Array.getElem?_eq_some_iff.mp h1).1 h0
    fun h' ⟨x1, x2, x3, x4⟩ => h h' ⟨x1, x2, x3, fun b o hb hnf => x4 b o ((other b (noRecord b o hb hnf)).trans hb) hnf⟩

theorem setFlight_noneD {base : Heap} {l : List Env} {e : Addr} {cls a0 fl : Value} {dd : Option Addr} {Q : Unit → Shared → Prop}
    (hkb : base.StaysIn s.heap) (hl : s.heap.FunFrames base l) (ht : TracedAtD s.heap base e cls a0 fl dd)
    (h : ∀ h', base.StaysIn h' → h'.FunFrames base l → TracedD h' base e cls a0 dd → (∀ b o, s.heap.get? b = some o → (∀ vs, o.data ≠ .fields vs) → h'.get? b = some o) → Q () { s with heap := h' }) :
    wpAny M A (setFlight (.ref e) none) Q E s := by
  refine hide_goal fun kHide => ?_
  obtain ⟨oe, vs, T, oT, ts, he, hcls, hd, h1, hnT, hTe, hT, hdT, h3⟩ := ht
  refine kHide ?_
  clear kHide
  have hsz3 : 3 < ts.size := (Array.getElem?_eq_some_iff.mp h3).1
  have other : ∀ b, b ≠ T → (s.heap.update T (Obj.mapFields (·.setIfInBounds 3 ((none : Option Addr).elim Value.none fun f => rawInt f)))).get? b = s.heap.get? b :=
    fun b hb => Heap.get?_update_other _ _ (Ne.symm hb)
  have noRecord : ∀ b o, s.heap.get? b = some o → (∀ vs, o.data ≠ .fields vs) → b ≠ T := fun b o hb hnf q => by
    rw [q, hT] at hb; injection hb with hb; subst hb; exact hnf ts hdT
  unfold setFlight
  refine wpAny_bind (wpAny_field he hd h1 ?_)
  rw [if_pos (show (Value.ref T != Value.none) = true from by simp)]
  refine wpAny_setField hT hdT hsz3 (h _ (fun b o hbo => (other b fun q => by rw [q, hnT] at hbo; cases hbo).trans (hkb b o hbo))
    (hl.of_keeps fun b o hb hnf => ⟨o, (other b (noRecord b o hb hnf)).trans hb, rfl⟩) ?_ fun b o hb hnf => (other b (noRecord b o hb hnf)).trans hb)
  exact ⟨oe, vs, T, _, _, (other e (Ne.symm hTe)).trans he, hcls, hd, h1, hnT, hTe, Heap.get?_update_self _ hT (Obj.isFreed_of_fields (Obj.data_mapFields hdT _)), Obj.data_mapFields hdT _, by simp [hsz3]⟩

end
end Mine
end

section
set_option maxRecDepth 100000
set_option maxHeartbeats 4000000
open PySem PySem.W PySem.Calls PyProof.Rows
namespace Mine
theorem fresh_E12 : True := by
  w_top off
  trivial
noncomputable def FlyingD (base : Heap) (l : List Env) (e : Addr) (cls a0 : Value) (d : Option Addr) (h : Heap) : Prop :=
  base.StaysIn h ∧ base.get? e = none ∧ h.FunFrames base l ∧ TracedD h base e cls a0 d
/-- an exception on its way up, with its dict, over what stays -/
noncomputable def FaultUp (base G : Heap) (l : List Env) (e C t dx : Addr) (nw : Led) (h : Heap) : Prop :=
  ∃ B : Heap, base.StaysIn B ∧ (∀ b o, G.get? b = some o → b ∉ l.filterMap (·.frame) → B.get? b = some o) ∧ (∀ q ∈ nw, B.get? q.1 = some q.2 ∧ G.get? q.1 = none) ∧ FlyingD B l e (.ref C) (.ref t) (some dx) h
section
variable {M : Model} {A : Around} {E : Value → Shared → Prop} {s' : Shared} {base g : Heap} {outer : List Env} {L a e t C dx : Addr} {m : Str → Option Value} {name : Str} {scope : Scope} {cd : Value} {Q : Unit → Shared → Prop} {nw : Led}
theorem leave_fault (K : Below A base outer g) (F : Fr g L s'.heap m) (N : News g L s'.heap ((e, excO C t (some dx)) :: nw)) (hoff : OwnOff nw [e])
    (hQ : ∀ h', FaultUp base g outer e C t dx nw h' → g.UpToSlots h' → Q () { s' with heap := h' }) (hk : scope.kind = .function := by rfl) :
    wpAny M (A.deeper (envOf name scope L a cd)) (leaving (envOf name scope L a cd) (.ref e)) Q E s' := by
  have K' := K.push (name := name) (a := a) (cd := cd) F hk
  have me := N _ (List.mem_cons_self ..)
  have be : base.get? e = none := fresh_of_stays K.stays me.2.2
  have hin : ∀ env ∈ (envOf name scope L a cd :: outer), ∀ b, env.frame = some b → b ∈ e :: (envOf name scope L a cd :: outer).filterMap (·.frame) := fun env he b hb => List.mem_cons_of_mem _ (List.mem_filterMap.mpr ⟨env, he, hb⟩)
  have st : base.StaysIn (hideAll s'.heap (e :: (envOf name scope L a cd :: outer).filterMap (·.frame))) := fun b o q => hideAll_get _ (K'.stays b o q) fun hm => by
    rcases List.mem_cons.mp hm with rfl | hm
    · rw [be] at q; cases q
    · rw [(K'.frames.mem hm).1] at q; cases q
  have sg : ∀ b o, g.get? b = some o → b ∉ outer.filterMap (·.frame) → (hideAll s'.heap (e :: (envOf name scope L a cd :: outer).filterMap (·.frame))).get? b = some o := fun b o q nm => hideAll_get _ (F.keep b o q) fun hm => by
    rcases List.mem_cons.mp hm with rfl | hm
    · rw [me.2.2] at q; cases q
    rcases kts_mem hm with z | z
    · rw [z, kts_self F] at q
      cases q
    · exact nm z
  have hl : ∀ q ∈ nw, (hideAll s'.heap (e :: (envOf name scope L a cd :: outer).filterMap (·.frame))).get? q.1 = some q.2 ∧ g.get? q.1 = none := fun q hq => by
    have hq' := N q (List.mem_cons_of_mem _ hq)
    refine ⟨hideAll_get _ hq'.1 fun hm => ?_, hq'.2.2⟩
    rcases List.mem_cons.mp hm with hm | hm
    · exact hoff q hq e (List.mem_singleton.mpr rfl) hm
    · refine hide_goal fun kHide => ?_
      obtain ⟨env, he, hf⟩ := List.mem_filterMap.mp hm
      refine kHide ?_
      clear kHide
      rcases List.mem_cons.mp he with rfl | he
      · exact hq'.2.1 (Option.some.inj hf).symm
      · refine hide_goal fun kHide => ?_
        obtain ⟨o, ho, _⟩ := (K.frames.mem (List.mem_filterMap.mpr ⟨env, he, hf⟩)).2
        refine kHide ?_
        clear kHide
        rw [hq'.2.2] at ho; cases ho
  have ne : (hideAll s'.heap (e :: (envOf name scope L a cd :: outer).filterMap (·.frame))).get? e = none := hideAll_none _ (List.mem_cons_self ..)
  refine leaving_firstD (a0 := .ref t) K'.stack (funFrames_hide K'.frames hin) rfl me.1 (fun b o q => of_hideAll _ q) ne rfl rfl rfl fun h' hL => ?_
  refine hide_goal fun kHide => ?_
  obtain ⟨k1, ⟨_, _, k2⟩, k3, k4⟩ := hL
  refine kHide ?_
  clear kHide
  exact hQ h' ⟨_, st, sg, hl, ⟨k1, ne, k2, k3⟩⟩ ((Heap.UpToSlots.of_keeps F.keep).trans k4)
theorem leave_fault' {fo : Obj} {full : Led} (K : Below A base outer g) (F : Fr g L s'.heap m) (N : News g L s'.heap ((dx, fo) :: (e, excO C t (some dx)) :: full)) (hoff : OwnOff full [e, dx]) (hne : @Ne Nat e dx) (sub : ∀ p ∈ nw, p ∈ full)
    (hQ : ∀ h', FaultUp base g outer e C t dx ((dx, fo) :: nw) h' → g.UpToSlots h' → Q () { s' with heap := h' }) (hk : scope.kind = .function := by rfl) :
    wpAny M (A.deeper (envOf name scope L a cd)) (leaving (envOf name scope L a cd) (.ref e)) Q E s' := by
  refine leave_fault (nw := (dx, fo) :: nw) (t := t) K F (N.perm fun p hp => ?_) (fun p hp b hb => ?_) hQ hk
  · rcases List.mem_cons.mp hp with rfl | hp
    · exact List.mem_cons_of_mem _ (List.mem_cons_self ..)
    · rcases List.mem_cons.mp hp with rfl | hp
      · exact List.mem_cons_self ..
      · exact List.mem_cons_of_mem _ (List.mem_cons_of_mem _ (sub p hp))
  · rw [List.mem_singleton.mp hb]
    rcases List.mem_cons.mp hp with rfl | hp
    · exact fun q => hne q.symm
    · exact hoff p (sub p hp) e (List.mem_cons_self ..)
end
end Mine
end

section
set_option maxRecDepth 100000
set_option maxHeartbeats 8000000
open PySem PySem.W PySem.Calls PyProof.Rows
namespace Mine
theorem fresh_W8 : True := by
  w_top off
  trivial
section
variable {w : World} {A₀ A : Around} {base h₀ : Heap} {outer : List Env} {env : Env} {L : Addr} {m mg mb : Str → Option Value} {mean : ExcName → Option Value} {E : Value → Shared → Prop} {s : Shared} {nw : Led}
local macro_rules | `(tactic| k_mem) => `(tactic| assumption)
local macro_rules | `(tactic| walk_at "call ref") => `(tactic| (k_here; refine Mark.go ?_))
local macro_rules | `(tactic| walk_at "call builtin:len") => `(tactic| (k_here; refine Mark.go ?_))
local macro_rules | `(tactic| walk_at "exec Raise some none") => `(tactic| (k_here; k_dflt (refine exc_raise76 (by rfl) ?_)))
local macro_rules | `(tactic| walk_at "call type:tuple") => `(tactic| (k_here; refine Mark.go ?_))
local macro_rules | `(tactic| walk_at "compareOp In ref ref") => `(tactic| (k_here; refine Mark.go ?_))
local macro_rules | `(tactic| walk_at "compareOp Eq ref ref") => `(tactic| (k_here; refine Mark.go ?_))
local macro_rules | `(tactic| walk_at "subscriptTail") => `(tactic| (k_here; (with_reducible show wpAny _ _ (subscriptTail _ _ (Value.ref _) (Value.ref _)) _ _ _); refine Mark.go ?_))

theorem stated_N {lg ld sl pd ca : Addr} {st : List Step} {c : Clause} {sp : Int} {spt : Tok} {Q : Value → Shared → Prop}
    (G : Gr w A₀ base h₀ outer mean mg mb) (a0 : Ar 36 130 A env outer L) (F : Fr h₀ L s.heap m) (N : News h₀ L s.heap nw) (La : LogAt w lg ld sl pd st nw) (hlen : st.length ≤ 90) (hca : ClIn nw c ca) (hcok : ClOk c)
    (hold : ∀ i t h' tk, fidx st c = some i → Fr h₀ L h' m → News h₀ L h' nw → Q (.int (i : Nat) t) { s with heap := h', toks := tk })
    (hnog : ∀ t h' tk nw', sp < 0 → c = [] → fidx st c = none → Fr h₀ L h' m → News h₀ L h' nw' → LogAt w lg ld sl pd (st ++ [⟨Str.ofString "nogood", [], [], .none⟩]) nw' → Keep [sl, pd] nw nw' → Q (.int (st.length : Nat) t) { s with heap := h', toks := tk })
    (hstr : ∀ t h' tk nw', 0 ≤ sp → fidx st c = none → Fr h₀ L h' m → News h₀ L h' nw' → LogAt w lg ld sl pd (st ++ [⟨Str.ofString "strike", c, [], .int sp⟩]) nw' → Keep [sl, pd] nw nw' → Q (.int (st.length : Nat) t) { s with heap := h', toks := tk })
    (hfault : ∀ e dx t wt nt ta tb g' h' tk, sp < 0 → c ≠ [] → fidx st c = none → Fr h₀ L g' m → g'.UpToSlots h' → FaultUp base g' (env :: outer) e 76 t dx ((dx, faultD w (Str.ofString "a clause that nobody has stated") wt (st.length : Nat) nt ta tb) :: nw) h' → E (.ref e) { s with heap := h', toks := tk }) :
    wpAny (model PR w) A (call (.ref 111) [.ref lg, .ref ca, .int sp spt]) Q E s := by
  refine hide_goal fun kHide => ?_
  obtain ⟨t1, t2, sv, n0, po, xs0, m1, m2, m3, m4, hpl, hxs, hst, hok⟩ := La.ex
  refine kHide ?_
  clear kHide
  obtain ⟨hd, dp, fr, gs, u⟩ := A
  obtain ⟨⟨kd, nm, ig, ic, mo⟩, lc, gl, ce, ql, fu, co, frm, bt⟩ := env
  refine hide_goal fun kHide => ?_
  obtain ⟨rfl, rfl, hdp, hun, hlo, hki⟩ := a0
  refine kHide ?_
  clear kHide
  dsimp only at hlo hki
  subst hlo hki
  refine hide_goal fun kHide => ?_
  obtain ⟨B, X, T⟩ := G
  refine kHide ?_
  clear kHide
  have fill : (∀ P : Params, Ahead.heap_1_39 P = Ahead.heap_1_39 P) ∧ PySem.Challenge.rw_qd0004_01 = PySem.Challenge.rw_qd0004_01 := by
    k_fill
    exact ⟨fun _ => rfl, rfl⟩
  clear fill
  dsimp only at hdp hun
  refine wpAny_call ?_
  k_enter
  k_steps
  refine Mark.un (in_places (by k_room) (by assumption) m4 La.lo hpl hxs hca ?_)
  dsimp only
  by_cases hin : ∃ x ∈ xs0, x.1 = c
  · rw [decide_eq_true hin]
    k_steps
    refine Mark.un (get_places (by k_room) (by assumption) m4 hpl hxs hca hin fun x hx he => ?_)
    refine hide_goal fun kHide => ?_
    obtain ⟨i, t, e1, e2⟩ := hok.val x hx
    refine kHide ?_
    clear kHide
    rw [e1]
    dsimp only
    k_steps
    exact hold i t _ _ (he ▸ e2) (by assumption) (by assumption)
  · rw [decide_eq_false hin]
    have hnone : fidx st c = none := fidx_none.mpr fun s' hs' e => by
      refine hide_goal fun kHide => ?_
      obtain ⟨x, hx1, hx2⟩ := hok.all s' hs'
      refine kHide ?_
      clear kHide
      exact hin ⟨x, hx1, hx2.trans e⟩
    k_steps
    · rename News _ _ _ (_ :: nw) => kN
      refine Mark.un (eq_dat kN (hca.mono fun p hp => List.mem_cons_of_mem _ hp).dat (ClIn.dat (c := []) ⟨[], _, List.mem_cons_self .., rfl, fun q hq => nomatch hq⟩) (clD_ok hcok 6) (clD_ok (c := []) (fun l hl => nomatch hl) 6) (by k_room) (fun he => ?_) fun he => ?_)
      · dsimp only
        k_steps
        rename News _ _ _ (_ :: _ :: _ :: nw) => kN2
        refine Mark.un (nogood_tup (c := []) (xs := []) ⟨by assumption, by assumption, by assumption⟩ ⟨rfl, rfl, by k_room, by k_room, rfl, rfl⟩ (by assumption) kN2 (La.sub fun p hp => List.Mem.tail _ (List.Mem.tail _ (List.Mem.tail _ hp))) hlen ⟨[], _, List.Mem.tail _ (List.Mem.head _), rfl, fun q hq => nomatch hq⟩ ⟨[], _, List.Mem.head _, .nil⟩ ?_)
        intro t h2 tk2 nw2 F2 N2 La2 K2
        dsimp only
        k_steps
        exact hnog _ _ _ _ (by first | (with_reducible first | assumption | exact u_1 | exact u_2 | exact u_3 | exact i_0 | exact i_1 | exact i_2 | exact n_le | exact sub0 | exact c_0 | exact c_lo | exact c_le | exact c_lt | exact c_pos | exact n_s1 | exact n_eq) | decide | omega) (clD_inj he) hnone (by assumption) (by assumption) La2 fun p hp hn => K2 p (List.Mem.tail _ (List.Mem.tail _ (List.Mem.tail _ hp))) hn
      · dsimp only
        k_steps
        rename News _ _ _ (_ :: nw) => kN2
        refine Mark.un (len_led kN2 (List.mem_cons_of_mem _ m3) (by rw [List.size_toArray, hst.length, sizeLine_eq]; first | (with_reducible first | assumption | exact u_1 | exact u_2 | exact u_3 | exact i_0 | exact i_1 | exact i_2 | exact n_le | exact sub0 | exact c_0 | exact c_lo | exact c_le | exact c_lt | exact c_pos | exact n_s1 | exact n_eq) | decide | omega) fun t3 tk3 => ?_)
        dsimp only
        k_steps
        rename News _ _ _ (_ :: nw) => kN3
        refine Mark.un (fault_K ⟨by assumption, by assumption, by assumption⟩ ⟨rfl, rfl, by k_room, by k_room, rfl, rfl⟩ (by assumption) kN3 ?_)
        intro e dx t ta tb h5 tk5 F5 N5 off5 ne5
        rename Frag.In _ _ => kX
        refine ⟨e, t, dx, rfl, kX.keeps F5.keep, (N5 _ (List.mem_cons_of_mem _ (List.mem_cons_self ..))).1, ?_⟩
        have hlen5 : ((sv.toArray.size : Nat) : Int) = ((st.length : Nat) : Int) := by rw [List.size_toArray, hst.length]
        rw [hlen5] at N5
        refine leave_fault' (nw := nw) (t := t) (by assumption) F5 N5 off5 ne5 (fun p hp => List.mem_cons_of_mem _ hp) fun h6 U6 up6 => ?_
        exact hfault e dx t _ t3 ta tb _ h6 _ (by first | (with_reducible first | assumption | exact u_1 | exact u_2 | exact u_3 | exact i_0 | exact i_1 | exact i_2 | exact n_le | exact sub0 | exact c_0 | exact c_lo | exact c_le | exact c_lt | exact c_pos | exact n_s1 | exact n_eq) | decide | omega) (fun q => he (by rw [q])) hnone (by assumption) up6 U6
    · rename News _ _ _ (_ :: nw) => kN
      refine Mark.un (add_N (s' := ⟨Str.ofString "strike", c, [], .int sp⟩) ⟨by assumption, by assumption, by assumption⟩ ⟨rfl, rfl, by k_room, by k_room, rfl, rfl⟩ (by assumption) kN (La.sub fun p hp => List.mem_cons_of_mem _ hp) hlen (hca.mono fun p hp => List.mem_cons_of_mem _ hp) ⟨[], _, List.mem_cons_self .., .nil⟩ ⟨spt, rfl⟩ ?_)
      intro t h2 tk2 nw2 F2 N2 La2 K2
      dsimp only
      k_steps
      exact hstr _ _ _ _ (by first | (with_reducible first | assumption | exact u_1 | exact u_2 | exact u_3 | exact i_0 | exact i_1 | exact i_2 | exact n_le | exact sub0 | exact c_0 | exact c_lo | exact c_le | exact c_lt | exact c_pos | exact n_s1 | exact n_eq) | decide | omega) hnone (by assumption) (by assumption) La2 fun p hp hn => K2 p (List.mem_cons_of_mem _ hp) hn
end
end Mine
end

section
set_option maxRecDepth 100000
set_option maxHeartbeats 8000000
open PySem PySem.W PySem.Calls PyProof.Rows
namespace Mine
theorem fresh_W9 : True := by
  w_top off
  trivial
/-- what a saying answers: the number, and the log's steps after it; none: refused -/
noncomputable def statedR (st : List Step) (c : Clause) (sp : Int) : Option (Nat × List Step) :=
  match fidx st c with
  | some i => some (i, st)
  | none => if sp < 0 then (if c = [] then some (st.length, st ++ [⟨Str.ofString "nogood", [], [], .none⟩]) else none) else some (st.length, st ++ [⟨Str.ofString "strike", c, [], .int sp⟩])
section
variable {w : World} {A₀ A : Around} {base h₀ : Heap} {outer : List Env} {env : Env} {L : Addr} {m mg mb : Str → Option Value} {mean : ExcName → Option Value} {E : Value → Shared → Prop} {s : Shared} {nw : Led}
noncomputable abbrev faultS : Str := Str.ofString "a clause that nobody has stated"
theorem stated_R {lg ld sl pd ca : Addr} {st : List Step} {c : Clause} {sp : Int} {spt : Tok} {Q : Value → Shared → Prop}
    (G : Gr w A₀ base h₀ outer mean mg mb) (a0 : Ar 36 130 A env outer L) (F : Fr h₀ L s.heap m) (N : News h₀ L s.heap nw) (La : LogAt w lg ld sl pd st nw) (hlen : st.length ≤ 90) (hca : ClIn nw c ca) (hcok : ClOk c)
    (h : ∀ i st' t h' tk nw', statedR st c sp = some (i, st') → Fr h₀ L h' m → News h₀ L h' nw' → LogAt w lg ld sl pd st' nw' → Keep [sl, pd] nw nw' → Q (.int (i : Nat) t) { s with heap := h', toks := tk })
    (hfault : ∀ e dx t wt nt ta tb g' h' tk, statedR st c sp = none → Fr h₀ L g' m → g'.UpToSlots h' → FaultUp base g' (env :: outer) e 76 t dx ((dx, faultD w faultS wt (st.length : Nat) nt ta tb) :: nw) h' → E (.ref e) { s with heap := h', toks := tk }) :
    wpAny (model PR w) A (call (.ref 111) [.ref lg, .ref ca, .int sp spt]) Q E s := by
  refine stated_N G a0 F N La hlen hca hcok (fun i t h' tk hf F' N' => ?_) (fun t h' tk nw' h1 h2 h3 F' N' L' K' => ?_) (fun t h' tk nw' h1 h3 F' N' L' K' => ?_) (fun e dx t wt nt ta tb g' h' tk h1 h2 h3 F' U' V' => ?_)
  · exact h i st t h' tk nw (by unfold statedR; rw [hf]) F' N' La (Keep.refl _ _)
  · exact h _ _ t h' tk nw' (by unfold statedR; rw [h3]; simp only [if_pos h1, if_pos h2]) F' N' L' K'
  · exact h _ _ t h' tk nw' (by unfold statedR; rw [h3]; simp only [if_neg (Int.not_lt.mpr h1)]) F' N' L' K'
  · exact hfault e dx t wt nt ta tb g' h' tk (by unfold statedR; rw [h3]; simp only [if_pos h1, if_neg h2]) F' U' V'
end
end Mine
end

section
set_option maxRecDepth 100000
set_option maxHeartbeats 8000000
open PySem PySem.W PySem.Calls PyProof.Rows
namespace Mine
theorem fresh_W10 : True := by
  w_top off
  trivial
section
variable {w : World} {A₀ A : Around} {base h₀ : Heap} {outer : List Env} {env : Env} {L : Addr} {m mg mb : Str → Option Value} {mean : ExcName → Option Value} {E : Value → Shared → Prop} {s : Shared} {nw : Led}
local macro_rules | `(tactic| k_mem) => `(tactic| assumption)
local macro_rules | `(tactic| walk_at "call ref") => `(tactic| (k_here; refine Mark.go ?_))
theorem norm_ok {qs ex : List (Lit × Addr)} (h1 : ∀ q ∈ qs, q.1.2.1 ∈ signs) (h2 : ∀ q ∈ ex, q.1.2.1 ∈ signs) : ClOk (norm (qs.map (fun q => negL q.1) ++ ex.map (·.1))) := fun l hl => by
  rw [mem_norm] at hl
  rcases List.mem_append.mp hl with hl | hl
  · refine hide_goal fun kHide => ?_
    obtain ⟨q, hq, rfl⟩ := List.mem_map.mp hl
    refine kHide ?_
    clear kHide
    unfold negL
    split
    · simp [signs]
    · split
      · simp [signs]
      · split <;> simp [signs]
  · refine hide_goal fun kHide => ?_
    obtain ⟨q, hq, rfl⟩ := List.mem_map.mp hl
    refine kHide ?_
    clear kHide
    exact h2 q hq
theorem strike_N {lg ld sl pd rt : Addr} {st : List Step} {qs : List (Lit × Addr)} {la : Addr} {l : Lit} {n : Nat} {sp : Int} {spt : Tok} {Q : Value → Shared → Prop}
    (G : Gr w A₀ base h₀ outer mean mg mb) (a0 : Ar 40 150 A env outer L) (F : Fr h₀ L s.heap m) (N : News h₀ L s.heap nw) (La : LogAt w lg ld sl pd st nw) (hlen : st.length ≤ 90) (hsp : 0 ≤ sp) (hr : (rt, tupO (refs qs).toArray n) ∈ nw) (hq : ∀ q ∈ qs, LitIn nw q.1 q.2 ∧ q.1.2.1 ∈ signs) (hql : qs.length ≤ 2)
    (hl : LitIn nw l la) (hls : l.2.1 ∈ signs)
    (h : ∀ i st' t h' tk d nw', statedR st (norm (qs.map (fun q => negL q.1) ++ [l])) sp = some (i, st') → Fr h₀ L h' m → News h₀ L h' nw' → LogAt w lg ld sl pd st' nw' → Keep [sl, pd] nw nw' → Q (.int (i : Nat) t) { s with heap := h', toks := tk, drawn := d }) :
    wpAny (model PR w) A (call (.ref 118) [.ref lg, .ref la, .ref rt, .int sp spt]) Q E s := by
  refine hide_goal fun kHide => ?_
  obtain ⟨t1, t2, sv, n0, po, xs0, m1, m2, rest⟩ := La.ex
  refine kHide ?_
  clear kHide
  obtain ⟨hd, dp, fr, gs, u⟩ := A
  obtain ⟨⟨kd, nm, ig, ic, mo⟩, lc, gl, ce, ql, fu, co, frm, bt⟩ := env
  refine hide_goal fun kHide => ?_
  obtain ⟨rfl, rfl, hdp, hun, hlo, hki⟩ := a0
  refine kHide ?_
  clear kHide
  dsimp only at hlo hki
  subst hlo hki
  refine hide_goal fun kHide => ?_
  obtain ⟨B, X, T⟩ := G
  refine kHide ?_
  clear kHide
  have fill : (∀ P : Params, Ahead.heap_1_39 P = Ahead.heap_1_39 P) ∧ PySem.Challenge.rw_qd0004_01 = PySem.Challenge.rw_qd0004_01 := by
    k_fill
    exact ⟨fun _ => rfl, rfl⟩
  clear fill rest
  dsimp only at hdp hun
  refine wpAny_call ?_
  k_enter
  k_steps
  refine Mark.un (cof_core (qs := qs) (ex := [(l, la)]) ⟨by assumption, by assumption, by assumption⟩ ⟨rfl, rfl, by k_room, by k_room, rfl, rfl⟩ (by assumption) (by assumption) hr hq hql (.inr ⟨l, la, rfl, rfl, hl⟩) ?_)
  intro D h1 tk1 d1 qs' c1 new F1 N1 l1 e1 q1 len1
  dsimp only
  k_steps
  have up : ∀ p ∈ nw, p ∈ (D, tupO (refs qs').toArray c1) :: (new ++ nw) := fun p hp => List.mem_cons_of_mem _ (List.mem_append_right _ hp)
  refine Mark.un (stated_R (c := norm (qs.map (fun q => negL q.1) ++ [l])) ⟨by assumption, by assumption, by assumption⟩ ⟨rfl, rfl, by k_room, by k_room, rfl, rfl⟩ F1 N1 (La.sub up) hlen ⟨qs', c1, List.mem_cons_self .., e1, fun q hq => (q1 q hq).mono fun p hp => List.mem_cons_of_mem _ hp⟩ (norm_ok (fun q hq' => (hq q hq').2) (ex := [(l, la)]) (fun q hq => by rw [List.mem_singleton.mp hq]; exact hls)) ?_ ?_)
  · intro i st' t h2 tk2 nw2 hs2 F2 N2 L2 K2
    dsimp only
    k_steps
    exact h i st' _ _ _ _ nw2 hs2 (by assumption) (by assumption) L2 fun p hp hn => K2 p (up p hp) hn
  · intro e dx t wt nt ta tb g' h' tk hn
    unfold statedR at hn
    split at hn
    · cases hn
    · rw [if_neg (Int.not_lt.mpr hsp)] at hn; cases hn
theorem clash_N {lg ld sl pd rt : Addr} {st : List Step} {qs : List (Lit × Addr)} {n : Nat} {sp : Int} {spt : Tok} {Q : Value → Shared → Prop}
    (G : Gr w A₀ base h₀ outer mean mg mb) (a0 : Ar 40 150 A env outer L) (F : Fr h₀ L s.heap m) (N : News h₀ L s.heap nw) (La : LogAt w lg ld sl pd st nw) (hlen : st.length ≤ 90) (hsp : 0 ≤ sp) (hr : (rt, tupO (refs qs).toArray n) ∈ nw) (hq : ∀ q ∈ qs, LitIn nw q.1 q.2 ∧ q.1.2.1 ∈ signs) (hql : qs.length ≤ 2)
        (h : ∀ i st' t h' tk d nw', statedR st (norm (qs.map (fun q => negL q.1) ++ [])) sp = some (i, st') → Fr h₀ L h' m → News h₀ L h' nw' → LogAt w lg ld sl pd st' nw' → Keep [sl, pd] nw nw' → Q (.int (i : Nat) t) { s with heap := h', toks := tk, drawn := d }) :
    wpAny (model PR w) A (call (.ref 125) [.ref lg, .ref rt, .int sp spt]) Q E s := by
  refine hide_goal fun kHide => ?_
  obtain ⟨t1, t2, sv, n0, po, xs0, m1, m2, rest⟩ := La.ex
  refine kHide ?_
  clear kHide
  obtain ⟨hd, dp, fr, gs, u⟩ := A
  obtain ⟨⟨kd, nm, ig, ic, mo⟩, lc, gl, ce, ql, fu, co, frm, bt⟩ := env
  refine hide_goal fun kHide => ?_
  obtain ⟨rfl, rfl, hdp, hun, hlo, hki⟩ := a0
  refine kHide ?_
  clear kHide
  dsimp only at hlo hki
  subst hlo hki
  refine hide_goal fun kHide => ?_
  obtain ⟨B, X, T⟩ := G
  refine kHide ?_
  clear kHide
  have fill : (∀ P : Params, Ahead.heap_1_39 P = Ahead.heap_1_39 P) ∧ PySem.Challenge.rw_qd0004_01 = PySem.Challenge.rw_qd0004_01 := by
    k_fill
    exact ⟨fun _ => rfl, rfl⟩
  clear fill rest
  dsimp only at hdp hun
  refine wpAny_call ?_
  k_enter
  k_steps
  refine Mark.un (cof_core (qs := qs) (ex := []) ⟨by assumption, by assumption, by assumption⟩ ⟨rfl, rfl, by k_room, by k_room, rfl, rfl⟩ (by assumption) (by assumption) hr hq hql (.inl ⟨rfl, rfl⟩) ?_)
  intro D h1 tk1 d1 qs' c1 new F1 N1 l1 e1 q1 len1
  dsimp only
  k_steps
  have up : ∀ p ∈ nw, p ∈ (D, tupO (refs qs').toArray c1) :: (new ++ nw) := fun p hp => List.mem_cons_of_mem _ (List.mem_append_right _ hp)
  refine Mark.un (stated_R (c := norm (qs.map (fun q => negL q.1) ++ [])) ⟨by assumption, by assumption, by assumption⟩ ⟨rfl, rfl, by k_room, by k_room, rfl, rfl⟩ F1 N1 (La.sub up) hlen ⟨qs', c1, List.mem_cons_self .., e1, fun q hq => (q1 q hq).mono fun p hp => List.mem_cons_of_mem _ hp⟩ (norm_ok (fun q hq' => (hq q hq').2) (ex := []) (fun q hq => nomatch hq)) ?_ ?_)
  · intro i st' t h2 tk2 nw2 hs2 F2 N2 L2 K2
    dsimp only
    k_steps
    exact h i st' _ _ _ _ nw2 hs2 (by assumption) (by assumption) L2 fun p hp hn => K2 p (up p hp) hn
  · intro e dx t wt nt ta tb g' h' tk hn
    unfold statedR at hn
    split at hn
    · cases hn
    · rw [if_neg (Int.not_lt.mpr hsp)] at hn; cases hn
end
end Mine
end

section
set_option maxRecDepth 100000
set_option maxHeartbeats 8000000
open PySem PySem.W PySem.Calls PyProof.Rows
namespace Mine
theorem fresh_L1 : True := by
  w_top off
  trivial
section
variable {w : World} {A₀ A : Around} {base h₀ : Heap} {outer : List Env} {env : Env} {L : Addr} {m mg mb : Str → Option Value} {mean : ExcName → Option Value} {E : Value → Shared → Prop} {s : Shared} {nw : Led}
local macro_rules | `(tactic| walk_at "a pad") => `(tactic| fail)
local macro_rules | `(tactic| k_mem) => `(tactic| assumption)
local macro_rules | `(tactic| k_all) => `(tactic| (rename (_ ∧ AllLt _ _) => hq; exact fun p hp => Nat.ne_of_lt (Nat.lt_of_lt_of_le (allLt_mem hq.2 p hp) (by first | exact Nat.le_succ _ | exact Nat.le_add_right _ _ | omega))))
local macro_rules | `(tactic| walk_at "eval ListComp") => `(tactic| (k_here; refine Mark.go ?_))
noncomputable def satL (l : Lit) (v : Int) : Bool :=
  if l.2.1 = Str.ofString "=" then decide (v = l.2.2) else if l.2.1 = Str.ofString "!=" then !decide (v = l.2.2) else if l.2.1 = Str.ofString "<=" then decide (v ≤ l.2.2) else decide (v ≥ l.2.2)
noncomputable def letL (l : Lit) : List Int := ((List.range 6).map fun (i : Nat) => (-2 : Int) + (i : Int)).filter (satL l)
theorem satL_eq (x k v : Int) : satL (x, Str.ofString "=", k) v = decide (v = k) := if_pos rfl
theorem satL_ne (x k v : Int) : satL (x, Str.ofString "!=", k) v = !decide (v = k) := (if_neg (show ¬ Str.ofString "!=" = Str.ofString "=" by decide)).trans (if_pos rfl)
theorem satL_le (x k v : Int) : satL (x, Str.ofString "<=", k) v = decide (v ≤ k) := (if_neg (show ¬ Str.ofString "<=" = Str.ofString "=" by decide)).trans ((if_neg (show ¬ Str.ofString "<=" = Str.ofString "!=" by decide)).trans (if_pos rfl))
theorem satL_ge (x k v : Int) : satL (x, Str.ofString ">=", k) v = decide (v ≥ k) := (if_neg (show ¬ Str.ofString ">=" = Str.ofString "=" by decide)).trans ((if_neg (show ¬ Str.ofString ">=" = Str.ofString "!=" by decide)).trans (if_neg (show ¬ Str.ofString ">=" = Str.ofString "<=" by decide)))
theorem beqs_eq (a b : Int) : ((a == b) == (Str.ofString "=" == Str.ofString "=")) = decide (a = b) := by
  rw [show (Str.ofString "=" == Str.ofString "=") = true from by decide]
  by_cases h : a = b <;> simp [h]
theorem beqs_ne (a b : Int) : ((a == b) == (Str.ofString "!=" == Str.ofString "=")) = !decide (a = b) := by
  rw [show (Str.ofString "!=" == Str.ofString "=") = false from by decide]
  by_cases h : a = b <;> simp [h]
theorem let_core {a : Addr} {x k : Int} {sg : Str} {t1 t2 t3 : Tok} {n : Nat} {Q : Value → Shared → Prop}
    (G : Gr w A₀ base h₀ outer mean mg mb) (a0 : Ar 20 50 A env outer L) (F : Fr h₀ L s.heap m) (N : News h₀ L s.heap ((a, litO x sg k t1 t2 t3 n) :: nw)) (hs : sg ∈ signs)
    (h : ∀ D ys h' tk nw', Fr h₀ L h' m → News h₀ L h' nw' → (D, LCg.lst ys) ∈ nw' → IntsAre ys (letL (x, sg, k)) → (∀ p ∈ nw, p ∈ nw') → (∀ p ∈ nw, @Ne Nat p.1 D) → Q (.ref D) { s with heap := h', toks := tk }) :
    wpAny (model PR w) A (call (.ref 172) [.ref a]) Q E s := by
  obtain ⟨hd, dp, fr, gs, u⟩ := A
  obtain ⟨⟨kd, nm, ig, ic, mo⟩, lc, gl, ce, ql, fu, co, frm, bt⟩ := env
  refine hide_goal fun kHide => ?_
  obtain ⟨rfl, rfl, hdp, hun, hlo, hki⟩ := a0
  refine kHide ?_
  clear kHide
  dsimp only at hlo hki
  subst hlo hki
  refine hide_goal fun kHide => ?_
  obtain ⟨B, X, T⟩ := G
  refine kHide ?_
  clear kHide
  have fill : (∀ P : Params, Ahead.heap_1_39 P = Ahead.heap_1_39 P) ∧ PySem.Challenge.rw_qd0004_01 = PySem.Challenge.rw_qd0004_01 := by
    k_fill
    exact ⟨fun _ => rfl, rfl⟩
  clear fill
  dsimp only at hdp hun
  simp only [signs, List.mem_cons, List.not_mem_nil, or_false] at hs
  rcases hs with rfl | rfl | rfl | rfl
  · refine wpAny_call ?_
    k_enter
    k_steps
    refine Mark.un (LCt.ListComp_T (F₀ := by k_asm) (by with_unfolding_all rfl) (by decide) (by rfl) (by decide) (by rfl) ?_)
    k_steps
    refine LCt.CompSrcT.range (n := 6) (by rfl) (by k_asm) (by k_asm) (by assumption) (by first | decide | rfl) (by first | rfl | decide) (by first | size_fits | exact Nat.le_of_ble_eq_true rfl) ?_
    intro g1
    refine restT_filter (satL (x, Str.ofString "<=", k)) (-2) 6 ?turnsatL_le rfl (fun _ => rfl) (by decide) ?finsatL_le 6 0 [] (by rfl) .nil
    case turnsatL_le =>
      intro i ys I oI C oC D m₂ h1 tk1 t E' hi hC hx F1 N1 off ne
      k_steps
      refine ⟨?_, _, _, rfl, by assumption, by assumption⟩
      exact (satL_le ..).symm
    case finsatL_le =>
      intro ys hys
      unfold LCg.FinE
      intro D h' tk' F' N' o1
      have oo := off1_mem o1
      dsimp only
      k_steps
      rename News h₀ _ _ _ => kN
      refine h D ys _ _ _ (by assumption) kN (List.mem_cons_self ..) hys (fun p hp => ?_) (fun p hp => oo p ?_)
      · repeat (first | exact hp | refine List.Mem.tail _ ?_)
      · repeat (first | exact hp | refine List.Mem.tail _ ?_)
  · refine wpAny_call ?_
    k_enter
    k_steps
    refine Mark.un (LCt.ListComp_T (F₀ := by k_asm) (by with_unfolding_all rfl) (by decide) (by rfl) (by decide) (by rfl) ?_)
    k_steps
    refine LCt.CompSrcT.range (n := 6) (by rfl) (by k_asm) (by k_asm) (by assumption) (by first | decide | rfl) (by first | rfl | decide) (by first | size_fits | exact Nat.le_of_ble_eq_true rfl) ?_
    intro g1
    refine restT_filter (satL (x, Str.ofString ">=", k)) (-2) 6 ?turnsatL_ge rfl (fun _ => rfl) (by decide) ?finsatL_ge 6 0 [] (by rfl) .nil
    case turnsatL_ge =>
      intro i ys I oI C oC D m₂ h1 tk1 t E' hi hC hx F1 N1 off ne
      k_steps
      refine ⟨?_, _, _, rfl, by assumption, by assumption⟩
      exact (satL_ge ..).symm
    case finsatL_ge =>
      intro ys hys
      unfold LCg.FinE
      intro D h' tk' F' N' o1
      have oo := off1_mem o1
      dsimp only
      k_steps
      rename News h₀ _ _ _ => kN
      refine h D ys _ _ _ (by assumption) kN (List.mem_cons_self ..) hys (fun p hp => ?_) (fun p hp => oo p ?_)
      · repeat (first | exact hp | refine List.Mem.tail _ ?_)
      · repeat (first | exact hp | refine List.Mem.tail _ ?_)
  · refine wpAny_call ?_
    k_enter
    k_steps
    refine Mark.un (LCt.ListComp_T (F₀ := by k_asm) (by with_unfolding_all rfl) (by decide) (by rfl) (by decide) (by rfl) ?_)
    k_steps
    refine LCt.CompSrcT.range (n := 6) (by rfl) (by k_asm) (by k_asm) (by assumption) (by first | decide | rfl) (by first | rfl | decide) (by first | size_fits | exact Nat.le_of_ble_eq_true rfl) ?_
    intro g1
    refine restT_filter (satL (x, Str.ofString "=", k)) (-2) 6 ?turnsatL_eq rfl (fun _ => rfl) (by decide) ?finsatL_eq 6 0 [] (by rfl) .nil
    case turnsatL_eq =>
      intro i ys I oI C oC D m₂ h1 tk1 t E' hi hC hx F1 N1 off ne
      k_steps
      refine ⟨?_, _, _, rfl, by assumption, by assumption⟩
      rw [satL_eq]
      exact beqs_eq _ _
    case finsatL_eq =>
      intro ys hys
      unfold LCg.FinE
      intro D h' tk' F' N' o1
      have oo := off1_mem o1
      dsimp only
      k_steps
      rename News h₀ _ _ _ => kN
      refine h D ys _ _ _ (by assumption) kN (List.mem_cons_self ..) hys (fun p hp => ?_) (fun p hp => oo p ?_)
      · repeat (first | exact hp | refine List.Mem.tail _ ?_)
      · repeat (first | exact hp | refine List.Mem.tail _ ?_)
  · refine wpAny_call ?_
    k_enter
    k_steps
    refine Mark.un (LCt.ListComp_T (F₀ := by k_asm) (by with_unfolding_all rfl) (by decide) (by rfl) (by decide) (by rfl) ?_)
    k_steps
    refine LCt.CompSrcT.range (n := 6) (by rfl) (by k_asm) (by k_asm) (by assumption) (by first | decide | rfl) (by first | rfl | decide) (by first | size_fits | exact Nat.le_of_ble_eq_true rfl) ?_
    intro g1
    refine restT_filter (satL (x, Str.ofString "!=", k)) (-2) 6 ?turnsatL_ne rfl (fun _ => rfl) (by decide) ?finsatL_ne 6 0 [] (by rfl) .nil
    case turnsatL_ne =>
      intro i ys I oI C oC D m₂ h1 tk1 t E' hi hC hx F1 N1 off ne
      k_steps
      refine ⟨?_, _, _, rfl, by assumption, by assumption⟩
      rw [satL_ne]
      exact beqs_ne _ _
    case finsatL_ne =>
      intro ys hys
      unfold LCg.FinE
      intro D h' tk' F' N' o1
      have oo := off1_mem o1
      dsimp only
      k_steps
      rename News h₀ _ _ _ => kN
      refine h D ys _ _ _ (by assumption) kN (List.mem_cons_self ..) hys (fun p hp => ?_) (fun p hp => oo p ?_)
      · repeat (first | exact hp | refine List.Mem.tail _ ?_)
      · repeat (first | exact hp | refine List.Mem.tail _ ?_)
end
end Mine
end

section
set_option maxRecDepth 100000
set_option maxHeartbeats 8000000
open PySem PySem.W PySem.Calls PyProof.Rows
namespace Mine
theorem fresh_W11 : True := by
  w_top off
  trivial
section
variable {w : World} {A₀ A : Around} {base h₀ : Heap} {outer : List Env} {env : Env} {L : Addr} {m mg mb : Str → Option Value} {mean : ExcName → Option Value} {E : Value → Shared → Prop} {s : Shared} {nw : Led}
local macro_rules | `(tactic| k_mem) => `(tactic| assumption)
local macro_rules | `(tactic| walk_at "call ref") => `(tactic| (k_here; refine Mark.go ?_))
local macro_rules | `(tactic| walk_at "call type:tuple") => `(tactic| (k_here; refine Mark.go ?_))
local macro_rules | `(tactic| walk_at "call builtin:len") => `(tactic| (k_here; refine Mark.go ?_))
local macro_rules | `(tactic| walk_at "compareOp NotEq ref ref") => `(tactic| (k_here; refine Mark.go ?_))
local macro_rules | `(tactic| walk_at "subscriptTail") => `(tactic| (k_here; refine Mark.go ?_))
local macro_rules | `(tactic| walk_at "eval ListComp") => `(tactic| (k_here; refine Mark.go ?_))
local macro_rules | `(tactic| walk_at "CompSrc") => `(tactic| (k_here; refine Mark.go ?_))
local macro_rules | `(tactic| walk_at "call type:set") => `(tactic| (k_here; refine Mark.go ?_))
local macro_rules | `(tactic| walk_at "call builtin:sorted") => `(tactic| (k_here; refine Mark.go ?_))
theorem listAt {prog : Program} {value slice : PySem.Expr} {t : Addr} {items : Array Value} {n : Nat} {k : Int} {u : Tok} {Q : Value → Shared → Prop} (N : News h₀ L s.heap nw) (hm : (t, listOf items n) ∈ nw)
    (h0 : 0 ≤ k) (h1 : k < items.size) (h2 : k < 2 ^ 63) (h : ∀ v, items[k.toNat]? = some v → Q v s)
    (hs : subscripted slice false (.ref t) (.int k u) = operate [.ref t, .int k u] (getItem (.ref t) (.int k u)) := by with_unfolding_all rfl) :
    wpAny (model prog w) A (subscriptTail value slice (.ref t) (.int k u)) Q E s := by
  have hl : s.heap.IsList t items := N.isList (d := none) (sl := #[]) hm
  have hlt : k.toNat < items.size := by omega
  exact tail_any hl.typeIs slot_list_getitem.lookup (wpAny_getItem_list hl h0 (by first | (with_reducible first | assumption | exact u_1 | exact u_2 | exact u_3 | exact i_0 | exact i_1 | exact i_2 | exact n_le | exact sub0 | exact c_0 | exact c_lo | exact c_le | exact c_lt | exact c_pos | exact n_s1 | exact n_eq | exact p_1 | exact p_11 | exact q_1 | exact q_11 | exact r_1 | exact r_11 | exact r_2 | exact s_1 | exact s_11 | exact s_2) | decide | omega) (x := items[k.toNat]) (by simp [hlt]) (h _ (by simp [hlt]))) hs
theorem StAll.get {nw : Led} {ss : List Step} {vs : List Value} {k : Int} {v : Value} (h : StAll nw ss vs) (e : vs.toArray[k.toNat]? = some v) : ∃ x ∈ ss, StIn nw x v := by
  refine hide_goal fun kHide => ?_
  obtain ⟨x, h1, h2⟩ := h.at (i := k.toNat) (by simpa using e)
  refine kHide ?_
  clear kHide
  exact ⟨x, List.mem_of_getElem? h1, h2⟩
theorem TapeAt.ne_list {tp cl a : Addr} {cs : List Value} {sp : Int} {g h : Heap} {its : Array Value} {n : Nat} (T : TapeAt w tp cl cs sp nw) (N : News g L h nw) (hm : (a, listOf its n) ∈ nw) : @Ne Nat a tp := by
  refine hide_goal fun kHide => ?_
  obtain ⟨o, nc, h1, h2, h3⟩ := T
  refine kHide ?_
  clear kHide
  refine N.twoPlaces hm h1 ?_
  intro e
  refine hide_goal fun kHide => ?_
  obtain ⟨ts, es, ep, _, hd, _⟩ := h3
  refine kHide ?_
  clear kHide
  rw [← show listOf its n = o from e] at hd
  cases hd
theorem steps_ok {st : List Step} (hok : ∀ x ∈ st, StOk x) : kqdOk 8 (.list (st.map stD)) = true := by
  simp only [kqdOk, List.all_eq_true, List.mem_map]
  rintro _ ⟨x, hx, rfl⟩
  exact stD_ok (hok x hx) 4
theorem clause_core {tp cl cp : Addr} {spo : Int} {cs : List Value} {ns : List Int} {sv : List Value} {st : List Step} {n : Nat} {Q : Value → Shared → Prop}
    (G : Gr w A₀ base h₀ outer mean mg mb) (a0 : Ar 40 150 A env outer L) (F : Fr h₀ L s.heap m) (N : News h₀ L s.heap nw) (T0 : TapeAt w tp cl cs spo nw) (hi : IntsAre cs ns) (hn : ns.length ≤ 63) (h0 : 0 ≤ spo) (h1 : spo ≤ 90000) (hm : (cp, listOf sv.toArray n) ∈ nw) (hst : StAll nw st sv) (hlen : st.length ≤ 90) (hok : ∀ x ∈ st, StOk x)
    (h : ∀ c a sp' h' tk d nw', ClOk c → ClIn nw' c a → spo ≤ sp' → sp' ≤ spo + 8 → Fr h₀ L h' m → News h₀ L h' nw' → TapeAt w tp cl cs sp' nw' → Keep [tp] nw nw' → Q (.ref a) { s with heap := h', toks := tk, drawn := d }) :
    wpAny (model PR w) A (call (.ref 182) [.ref tp, .ref cp]) Q E s := by
  obtain ⟨hd, dp, fr, gs, u⟩ := A
  obtain ⟨⟨kd, nm, ig, ic, mo⟩, lc, gl, ce, ql, fu, co, frm, bt⟩ := env
  refine hide_goal fun kHide => ?_
  obtain ⟨rfl, rfl, hdp, hun, hlo, hki⟩ := a0
  refine kHide ?_
  clear kHide
  dsimp only at hlo hki
  subst hlo hki
  refine hide_goal fun kHide => ?_
  obtain ⟨B, X, T⟩ := G
  refine kHide ?_
  clear kHide
  have fill : (∀ P : Params, Ahead.heap_1_39 P = Ahead.heap_1_39 P) ∧ PySem.Challenge.rw_qd0004_01 = PySem.Challenge.rw_qd0004_01 := by
    k_fill
    exact ⟨fun _ => rfl, rfl⟩
  clear fill
  dsimp only at hdp hun
  refine wpAny_call ?_
  k_enter
  k_steps
  rename News _ _ _ _ => kN
  rename ∀ (p : Addr × Obj), p ∈ nw → p.fst < _ => klt
  refine' Mark.un (ne_dat kN (.list (vs := sv) (n := n) (ds := st.map stD) ?p1 (hst.dat.mono ?p2)) (.list (vs := []) (ds := []) ?p3 .nil) (steps_ok hok) rfl ?p4 (fun he => ?_) (fun he => ?_))
  case p1 => repeat (first | exact hm | refine List.Mem.tail _ ?_)
  case p2 => exact fun p hp => by repeat (first | exact hp | refine List.Mem.tail _ ?_)
  case p3 => exact List.Mem.head _
  case p4 => k_room
  · dsimp only
    k_steps
    have htp : ∃ ot, (tp, ot) ∈ nw := let ⟨o, _, q, _⟩ := T0; ⟨o, q⟩
    refine hide_goal fun kHide => ?_
    obtain ⟨ot, htp⟩ := htp
    refine kHide ?_
    clear kHide
    have hltp := klt _ htp
    have up1 : ∀ x y : Addr × Obj, ∀ p ∈ nw, p ∈ x :: y :: nw := fun _ _ p hp => List.Mem.tail _ (List.Mem.tail _ hp)
    refine Mark.un (LCg.ListComp_U (F₀ := by k_asm) (by with_unfolding_all rfl) (by decide) (by rfl) (by decide) (by rfl) ?_)
    k_steps
    refine Mark.un (take_N ⟨by assumption, by assumption, by assumption⟩ ⟨rfl, rfl, by k_room, by k_room, rfl, rfl⟩ (by assumption) kN (T0.sub (up1 _ _)) hi hn (by first | (with_reducible first | assumption | exact u_1 | exact u_2 | exact u_3 | exact i_0 | exact i_1 | exact i_2 | exact n_le | exact sub0 | exact c_0 | exact c_lo | exact c_le | exact c_lt | exact c_pos | exact n_s1 | exact n_eq | exact p_1 | exact p_11 | exact q_1 | exact q_11 | exact r_1 | exact r_11 | exact r_2 | exact s_1 | exact s_11 | exact s_2) | decide | omega) (by first | (with_reducible first | assumption | exact u_1 | exact u_2 | exact u_3 | exact i_0 | exact i_1 | exact i_2 | exact n_le | exact sub0 | exact c_0 | exact c_lo | exact c_le | exact c_lt | exact c_pos | exact n_s1 | exact n_eq | exact p_1 | exact p_11 | exact q_1 | exact q_11 | exact r_1 | exact r_11 | exact r_2 | exact s_1 | exact s_11 | exact s_2) | decide | omega) (by first | (with_reducible first | assumption | exact u_1 | exact u_2 | exact u_3 | exact i_0 | exact i_1 | exact i_2 | exact n_le | exact sub0 | exact c_0 | exact c_lo | exact c_le | exact c_lt | exact c_pos | exact n_s1 | exact n_eq | exact p_1 | exact p_11 | exact q_1 | exact q_11 | exact r_1 | exact r_11 | exact r_2 | exact s_1 | exact s_11 | exact s_2) | decide | omega) (by first | (with_reducible first | assumption | exact u_1 | exact u_2 | exact u_3 | exact i_0 | exact i_1 | exact i_2 | exact n_le | exact sub0 | exact c_0 | exact c_lo | exact c_le | exact c_lt | exact c_pos | exact n_s1 | exact n_eq | exact p_1 | exact p_11 | exact q_1 | exact q_11 | exact r_1 | exact r_11 | exact r_2 | exact s_1 | exact s_11 | exact s_2) | decide | omega) ?_)
    intro n2 t2 h2' tk2 nw2 q2 q3 F2 N2 T2 K2
    have hcell2 := K2 _ (List.Mem.tail _ (List.Mem.head _)) (fun e => absurd (List.mem_singleton.mp e) (Nat.ne_of_gt (Nat.lt_succ_of_lt hltp)))
    clear kN
    dsimp only
    k_steps
    refine hide_goal fun kHide => ?_
    obtain ⟨nn, rfl⟩ := Int.eq_ofNat_of_zero_le q2
    refine kHide ?_
    clear kHide
    have hn3 : nn ≤ 2 := by omega
    refine Mark.un (LCg.CompSrc.range (n := nn) (by rfl) (by k_asm) (by k_asm) (by assumption) (small_one (by first | (with_reducible first | assumption | exact u_1 | exact u_2 | exact u_3 | exact i_0 | exact i_1 | exact i_2 | exact n_le | exact sub0 | exact c_0 | exact c_lo | exact c_le | exact c_lt | exact c_pos | exact n_s1 | exact n_eq | exact p_1 | exact p_11 | exact q_1 | exact q_11 | exact r_1 | exact r_11 | exact r_2 | exact s_1 | exact s_11 | exact s_2) | decide | omega) (by first | (with_reducible first | assumption | exact u_1 | exact u_2 | exact u_3 | exact i_0 | exact i_1 | exact i_2 | exact n_le | exact sub0 | exact c_0 | exact c_lo | exact c_le | exact c_lt | exact c_pos | exact n_s1 | exact n_eq | exact p_1 | exact p_11 | exact q_1 | exact q_11 | exact r_1 | exact r_11 | exact r_2 | exact s_1 | exact s_11 | exact s_2) | decide | omega) (by first | (with_reducible first | assumption | exact u_1 | exact u_2 | exact u_3 | exact i_0 | exact i_1 | exact i_2 | exact n_le | exact sub0 | exact c_0 | exact c_lo | exact c_le | exact c_lt | exact c_pos | exact n_s1 | exact n_eq | exact p_1 | exact p_11 | exact q_1 | exact q_11 | exact r_1 | exact r_11 | exact r_2 | exact s_1 | exact s_11 | exact s_2) | decide | omega) (by first | (with_reducible first | assumption | exact u_1 | exact u_2 | exact u_3 | exact i_0 | exact i_1 | exact i_2 | exact n_le | exact sub0 | exact c_0 | exact c_lo | exact c_le | exact c_lt | exact c_pos | exact n_s1 | exact n_eq | exact p_1 | exact p_11 | exact q_1 | exact q_11 | exact r_1 | exact r_11 | exact r_2 | exact s_1 | exact s_11 | exact s_2) | decide | omega)) ((rangeSize_nat _ _).trans (by first | (with_reducible first | assumption | exact u_1 | exact u_2 | exact u_3 | exact i_0 | exact i_1 | exact i_2 | exact n_le | exact sub0 | exact c_0 | exact c_lo | exact c_le | exact c_lt | exact c_pos | exact n_s1 | exact n_eq | exact p_1 | exact p_11 | exact q_1 | exact q_11 | exact r_1 | exact r_11 | exact r_2 | exact s_1 | exact s_11 | exact s_2) | decide | omega)) (by rw [sizeLine_eq]; first | (with_reducible first | assumption | exact u_1 | exact u_2 | exact u_3 | exact i_0 | exact i_1 | exact i_2 | exact n_le | exact sub0 | exact c_0 | exact c_lo | exact c_le | exact c_lt | exact c_pos | exact n_s1 | exact n_eq | exact p_1 | exact p_11 | exact q_1 | exact q_11 | exact r_1 | exact r_11 | exact r_2 | exact s_1 | exact s_11 | exact s_2) | decide | omega) ?_)
    intro g1
    refine rest_lits nn ⟨by assumption, by assumption, by assumption⟩ ⟨rfl, rfl, by k_room, by k_room, rfl, rfl⟩ T2 hi hn (by first | (with_reducible first | assumption | exact u_1 | exact u_2 | exact u_3 | exact i_0 | exact i_1 | exact i_2 | exact n_le | exact sub0 | exact c_0 | exact c_lo | exact c_le | exact c_lt | exact c_pos | exact n_s1 | exact n_eq | exact p_1 | exact p_11 | exact q_1 | exact q_11 | exact r_1 | exact r_11 | exact r_2 | exact s_1 | exact s_11 | exact s_2) | decide | omega) (by first | (with_reducible first | assumption | exact u_1 | exact u_2 | exact u_3 | exact i_0 | exact i_1 | exact i_2 | exact n_le | exact sub0 | exact c_0 | exact c_lo | exact c_le | exact c_lt | exact c_pos | exact n_s1 | exact n_eq | exact p_1 | exact p_11 | exact q_1 | exact q_11 | exact r_1 | exact r_11 | exact r_2 | exact s_1 | exact s_11 | exact s_2) | decide | omega) ?_ ?_
    · intro news ys I oI C oC D m₂ h3 tk3 Q' E' K3 hC F3 N3 off ne hcall
      have hcell3 := List.Mem.tail (I, oI) (List.Mem.tail (C, oC) (List.Mem.tail (D, LCg.lst ys) (K3 _ hcell2 (fun e => absurd (List.mem_singleton.mp e) (Nat.ne_of_gt (Nat.lt_succ_of_lt hltp))))))
      k_steps
      exact Mark.un hcall
    · intro qs news hl K3 T3 hq
      unfold LCg.FinE
      intro D h3 tk3 F3 N3 o1
      have oo := off1_mem o1
      dsimp only
      k_steps
      rename Fr _ _ _ _ => kF2
      rename News _ _ _ _ => kN2
      refine Mark.un (set_list (qs := qs) kF2 kN2 rfl (by k_room) (List.mem_cons_self ..) (fun q hq' => (hq q hq').1.mono fun p hp => List.mem_cons_of_mem _ hp) (by first | (with_reducible first | assumption | exact u_1 | exact u_2 | exact u_3 | exact i_0 | exact i_1 | exact i_2 | exact n_le | exact sub0 | exact c_0 | exact c_lo | exact c_le | exact c_lt | exact c_pos | exact n_s1 | exact n_eq | exact p_1 | exact p_11 | exact q_1 | exact q_11 | exact r_1 | exact r_11 | exact r_2 | exact s_1 | exact s_11 | exact s_2) | decide | omega) ?_)
      intro S oS h4 tk4 F4 N4 l4 hS
      dsimp only
      k_steps
      refine Mark.un (sorted_lits F4 N4 rfl (List.mem_cons_self ..) (setLits_mono hS fun p hp => List.mem_cons_of_mem _ hp) ?_)
      intro D5 h5 tk5 d5 qs5 c5 F5 N5 l5 asc5 hin5 len5 mem5
      dsimp only
      k_steps
      refine Mark.un (kde_tupleOf F5 N5 (N5.isList (n := c5) (d := none) (sl := #[]) (List.mem_cons_self ..)) (by simp only [refs, List.size_toArray, List.length_map]; first | (with_reducible first | assumption | exact u_1 | exact u_2 | exact u_3 | exact i_0 | exact i_1 | exact i_2 | exact n_le | exact sub0 | exact c_0 | exact c_lo | exact c_le | exact c_lt | exact c_pos | exact n_s1 | exact n_eq | exact p_1 | exact p_11 | exact q_1 | exact q_11 | exact r_1 | exact r_11 | exact r_2 | exact s_1 | exact s_11 | exact s_2) | decide | omega) rfl ?_)
      intro D6 h6 F6 N6 l6
      dsimp only
      k_steps
      rename Fr h₀ _ _ _ => kF6
      rename News h₀ _ _ _ => kN6
      refine h (qs5.map (·.1)) D6 _ h6 tk5 d5 _ ?_ ⟨qs5, _, List.mem_cons_self .., rfl, fun q hq' => (hin5 q hq').mono fun p hp => List.mem_cons_of_mem _ (List.mem_cons_of_mem _ hp)⟩ ?_ ?_ kF6 kN6 (T3.sub fun p hp => List.Mem.tail _ (List.Mem.tail _ (List.Mem.tail _ (List.Mem.tail _ hp)))) (fun p hp hnt => ?_)
      · intro l hl'
        have := (mem5 l).mp hl'
        refine hide_goal fun kHide => ?_
        obtain ⟨q, hq', rfl⟩ := List.mem_map.mp this
        refine kHide ?_
        clear kHide
        exact (hq q hq').2
      · first | (with_reducible first | assumption | exact u_1 | exact u_2 | exact u_3 | exact i_0 | exact i_1 | exact i_2 | exact n_le | exact sub0 | exact c_0 | exact c_lo | exact c_le | exact c_lt | exact c_pos | exact n_s1 | exact n_eq | exact p_1 | exact p_11 | exact q_1 | exact q_11 | exact r_1 | exact r_11 | exact r_2 | exact s_1 | exact s_11 | exact s_2) | decide | omega
      · first | (with_reducible first | assumption | exact u_1 | exact u_2 | exact u_3 | exact i_0 | exact i_1 | exact i_2 | exact n_le | exact sub0 | exact c_0 | exact c_lo | exact c_le | exact c_lt | exact c_pos | exact n_s1 | exact n_eq | exact p_1 | exact p_11 | exact q_1 | exact q_11 | exact r_1 | exact r_11 | exact r_2 | exact s_1 | exact s_11 | exact s_2) | decide | omega
      · exact List.Mem.tail _ (List.Mem.tail _ (List.Mem.tail _ (List.Mem.tail _ (K3 p (K2 p (up1 _ _ p hp) hnt) hnt))))
  · dsimp only
    k_steps
    have up1 : ∀ x y : Addr × Obj, ∀ p ∈ nw, p ∈ x :: y :: nw := fun _ _ p hp => List.Mem.tail _ (List.Mem.tail _ hp)
    refine Mark.un (take_N ⟨by assumption, by assumption, by assumption⟩ ⟨rfl, rfl, by k_room, by k_room, rfl, rfl⟩ (by assumption) kN (T0.sub (up1 _ _)) hi hn (by first | (with_reducible first | assumption | exact u_1 | exact u_2 | exact u_3 | exact i_0 | exact i_1 | exact i_2 | exact n_le | exact sub0 | exact c_0 | exact c_lo | exact c_le | exact c_lt | exact c_pos | exact n_s1 | exact n_eq | exact p_1 | exact p_11 | exact q_1 | exact q_11 | exact r_1 | exact r_11 | exact r_2 | exact s_1 | exact s_11 | exact s_2) | decide | omega) (by first | (with_reducible first | assumption | exact u_1 | exact u_2 | exact u_3 | exact i_0 | exact i_1 | exact i_2 | exact n_le | exact sub0 | exact c_0 | exact c_lo | exact c_le | exact c_lt | exact c_pos | exact n_s1 | exact n_eq | exact p_1 | exact p_11 | exact q_1 | exact q_11 | exact r_1 | exact r_11 | exact r_2 | exact s_1 | exact s_11 | exact s_2) | decide | omega) (by first | (with_reducible first | assumption | exact u_1 | exact u_2 | exact u_3 | exact i_0 | exact i_1 | exact i_2 | exact n_le | exact sub0 | exact c_0 | exact c_lo | exact c_le | exact c_lt | exact c_pos | exact n_s1 | exact n_eq | exact p_1 | exact p_11 | exact q_1 | exact q_11 | exact r_1 | exact r_11 | exact r_2 | exact s_1 | exact s_11 | exact s_2) | decide | omega) (by first | (with_reducible first | assumption | exact u_1 | exact u_2 | exact u_3 | exact i_0 | exact i_1 | exact i_2 | exact n_le | exact sub0 | exact c_0 | exact c_lo | exact c_le | exact c_lt | exact c_pos | exact n_s1 | exact n_eq | exact p_1 | exact p_11 | exact q_1 | exact q_11 | exact r_1 | exact r_11 | exact r_2 | exact s_1 | exact s_11 | exact s_2) | decide | omega) ?_)
    intro n1 t1 h1' tk1 nw1 q0 q1 F1 N1 T1 K1
    have htp : ∃ ot, (tp, ot) ∈ nw := let ⟨o, _, q, _⟩ := T0; ⟨o, q⟩
    refine hide_goal fun kHide => ?_
    obtain ⟨ot, htp⟩ := htp
    refine kHide ?_
    clear kHide
    have hltp := klt _ htp
    have hcell := K1 _ (List.Mem.tail _ (List.Mem.head _)) (fun e => absurd (List.mem_singleton.mp e) (Nat.ne_of_gt (Nat.lt_succ_of_lt hltp)))
    have hcp := K1 _ (up1 _ _ _ hm) (fun e => absurd (List.mem_singleton.mp e) (T0.ne_list N hm))
    dsimp only
    have hst1 : StAll nw1 st sv := hst.ups fun p hp hc => tape_keep_tups (T0.sub (up1 _ _)) kN K1 p (up1 _ _ p hp) hc
    clear kN
    k_steps
    · refine Mark.un (len_led N1 hcp (by rw [List.size_toArray, hst.length, sizeLine_eq]; first | (with_reducible first | assumption | exact u_1 | exact u_2 | exact u_3 | exact i_0 | exact i_1 | exact i_2 | exact n_le | exact sub0 | exact c_0 | exact c_lo | exact c_le | exact c_lt | exact c_pos | exact n_s1 | exact n_eq | exact p_1 | exact p_11 | exact q_1 | exact q_11 | exact r_1 | exact r_11 | exact r_2 | exact s_1 | exact s_11 | exact s_2) | decide | omega) fun t3 tk3 => ?_)
      have hz : ((sv.toArray.size : Nat) : Int) = ((st.length : Nat) : Int) := by rw [List.size_toArray, hst.length]
      rw [hz]
      have hpos : 0 < st.length := by
        cases st with
        | nil => exact absurd rfl he
        | cons => exact Nat.succ_pos _
      dsimp only
      k_steps
      refine Mark.un (take_N ⟨by assumption, by assumption, by assumption⟩ ⟨rfl, rfl, by k_room, by k_room, rfl, rfl⟩ (by assumption) N1 T1 hi hn (by first | (with_reducible first | assumption | exact u_1 | exact u_2 | exact u_3 | exact i_0 | exact i_1 | exact i_2 | exact n_le | exact sub0 | exact c_0 | exact c_lo | exact c_le | exact c_lt | exact c_pos | exact n_s1 | exact n_eq | exact p_1 | exact p_11 | exact q_1 | exact q_11 | exact r_1 | exact r_11 | exact r_2 | exact s_1 | exact s_11 | exact s_2) | decide | omega) (by first | (with_reducible first | assumption | exact u_1 | exact u_2 | exact u_3 | exact i_0 | exact i_1 | exact i_2 | exact n_le | exact sub0 | exact c_0 | exact c_lo | exact c_le | exact c_lt | exact c_pos | exact n_s1 | exact n_eq | exact p_1 | exact p_11 | exact q_1 | exact q_11 | exact r_1 | exact r_11 | exact r_2 | exact s_1 | exact s_11 | exact s_2) | decide | omega) (by first | (with_reducible first | assumption | exact u_1 | exact u_2 | exact u_3 | exact i_0 | exact i_1 | exact i_2 | exact n_le | exact sub0 | exact c_0 | exact c_lo | exact c_le | exact c_lt | exact c_pos | exact n_s1 | exact n_eq | exact p_1 | exact p_11 | exact q_1 | exact q_11 | exact r_1 | exact r_11 | exact r_2 | exact s_1 | exact s_11 | exact s_2) | decide | omega) (by first | (with_reducible first | assumption | exact u_1 | exact u_2 | exact u_3 | exact i_0 | exact i_1 | exact i_2 | exact n_le | exact sub0 | exact c_0 | exact c_lo | exact c_le | exact c_lt | exact c_pos | exact n_s1 | exact n_eq | exact p_1 | exact p_11 | exact q_1 | exact q_11 | exact r_1 | exact r_11 | exact r_2 | exact s_1 | exact s_11 | exact s_2) | decide | omega) ?_)
      intro n2 t2 h2' tk2 nw2 q2 q3 F2 N2 T2 K2
      have hcp2 := K2 _ hcp (fun e => absurd (List.mem_singleton.mp e) (T0.ne_list N hm))
      have hst2 : StAll nw2 st sv := hst1.ups (tape_keep_tups T1 N1 K2)
      clear N1
      (try dsimp only)
      k_steps
      refine Mark.un (listAt N2 hcp2 q2 (by rw [List.size_toArray, hst.length]; exact q3) (by first | (with_reducible first | assumption | exact u_1 | exact u_2 | exact u_3 | exact i_0 | exact i_1 | exact i_2 | exact n_le | exact sub0 | exact c_0 | exact c_lo | exact c_le | exact c_lt | exact c_pos | exact n_s1 | exact n_eq | exact p_1 | exact p_11 | exact q_1 | exact q_11 | exact r_1 | exact r_11 | exact r_2 | exact s_1 | exact s_11 | exact s_2) | decide | omega) fun v hv => ?_)
      refine hide_goal fun kHide => ?_
      obtain ⟨x, hx, a, k, rt, ca, pa, nv, rfl, m1, m2, m3, m4⟩ := hst2.get hv
      refine kHide ?_
      clear kHide
      (try dsimp only)
      k_steps
      refine Mark.un (tupAt N2 m1 (by first | (with_reducible first | assumption | exact u_1 | exact u_2 | exact u_3 | exact i_0 | exact i_1 | exact i_2 | exact n_le | exact sub0 | exact c_0 | exact c_lo | exact c_le | exact c_lt | exact c_pos | exact n_s1 | exact n_eq | exact p_1 | exact p_11 | exact q_1 | exact q_11 | exact r_1 | exact r_11 | exact r_2 | exact s_1 | exact s_11 | exact s_2) | decide | omega) (by simp) (by first | (with_reducible first | assumption | exact u_1 | exact u_2 | exact u_3 | exact i_0 | exact i_1 | exact i_2 | exact n_le | exact sub0 | exact c_0 | exact c_lo | exact c_le | exact c_lt | exact c_pos | exact n_s1 | exact n_eq | exact p_1 | exact p_11 | exact q_1 | exact q_11 | exact r_1 | exact r_11 | exact r_2 | exact s_1 | exact s_11 | exact s_2) | decide | omega) fun v' hv' => ?_)
      cases hv'
      (try dsimp only)
      k_steps
      rename Fr h₀ _ _ _ => kF6
      rename News h₀ _ _ _ => kN6
      refine h x.cl ca _ _ _ _ _ (hok x hx).c m2 ?_ ?_ kF6 kN6 T2 (fun p hp hnt => K2 p (K1 p (up1 _ _ p hp) hnt) hnt)
      · first | (with_reducible first | assumption | exact u_1 | exact u_2 | exact u_3 | exact i_0 | exact i_1 | exact i_2 | exact n_le | exact sub0 | exact c_0 | exact c_lo | exact c_le | exact c_lt | exact c_pos | exact n_s1 | exact n_eq | exact p_1 | exact p_11 | exact q_1 | exact q_11 | exact r_1 | exact r_11 | exact r_2 | exact s_1 | exact s_11 | exact s_2) | decide | omega
      · first | (with_reducible first | assumption | exact u_1 | exact u_2 | exact u_3 | exact i_0 | exact i_1 | exact i_2 | exact n_le | exact sub0 | exact c_0 | exact c_lo | exact c_le | exact c_lt | exact c_pos | exact n_s1 | exact n_eq | exact p_1 | exact p_11 | exact q_1 | exact q_11 | exact r_1 | exact r_11 | exact r_2 | exact s_1 | exact s_11 | exact s_2) | decide | omega
    ·
      refine Mark.un (LCg.ListComp_U (F₀ := by k_asm) (by with_unfolding_all rfl) (by decide) (by rfl) (by decide) (by rfl) ?_)
      k_steps
      refine Mark.un (take_N ⟨by assumption, by assumption, by assumption⟩ ⟨rfl, rfl, by k_room, by k_room, rfl, rfl⟩ (by assumption) N1 T1 hi hn (by first | (with_reducible first | assumption | exact u_1 | exact u_2 | exact u_3 | exact i_0 | exact i_1 | exact i_2 | exact n_le | exact sub0 | exact c_0 | exact c_lo | exact c_le | exact c_lt | exact c_pos | exact n_s1 | exact n_eq | exact p_1 | exact p_11 | exact q_1 | exact q_11 | exact r_1 | exact r_11 | exact r_2 | exact s_1 | exact s_11 | exact s_2) | decide | omega) (by first | (with_reducible first | assumption | exact u_1 | exact u_2 | exact u_3 | exact i_0 | exact i_1 | exact i_2 | exact n_le | exact sub0 | exact c_0 | exact c_lo | exact c_le | exact c_lt | exact c_pos | exact n_s1 | exact n_eq | exact p_1 | exact p_11 | exact q_1 | exact q_11 | exact r_1 | exact r_11 | exact r_2 | exact s_1 | exact s_11 | exact s_2) | decide | omega) (by first | (with_reducible first | assumption | exact u_1 | exact u_2 | exact u_3 | exact i_0 | exact i_1 | exact i_2 | exact n_le | exact sub0 | exact c_0 | exact c_lo | exact c_le | exact c_lt | exact c_pos | exact n_s1 | exact n_eq | exact p_1 | exact p_11 | exact q_1 | exact q_11 | exact r_1 | exact r_11 | exact r_2 | exact s_1 | exact s_11 | exact s_2) | decide | omega) (by first | (with_reducible first | assumption | exact u_1 | exact u_2 | exact u_3 | exact i_0 | exact i_1 | exact i_2 | exact n_le | exact sub0 | exact c_0 | exact c_lo | exact c_le | exact c_lt | exact c_pos | exact n_s1 | exact n_eq | exact p_1 | exact p_11 | exact q_1 | exact q_11 | exact r_1 | exact r_11 | exact r_2 | exact s_1 | exact s_11 | exact s_2) | decide | omega) ?_)
      intro n2 t2 h2' tk2 nw2 q2 q3 F2 N2 T2 K2
      have hcell2 := K2 _ hcell (fun e => absurd (List.mem_singleton.mp e) (Nat.ne_of_gt (Nat.lt_succ_of_lt hltp)))
      clear N1
      dsimp only
      k_steps
      refine hide_goal fun kHide => ?_
      obtain ⟨nn, rfl⟩ := Int.eq_ofNat_of_zero_le q2
      refine kHide ?_
      clear kHide
      have hn3 : nn ≤ 2 := by omega
      refine Mark.un (LCg.CompSrc.range (n := nn) (by rfl) (by k_asm) (by k_asm) (by assumption) (small_one (by first | (with_reducible first | assumption | exact u_1 | exact u_2 | exact u_3 | exact i_0 | exact i_1 | exact i_2 | exact n_le | exact sub0 | exact c_0 | exact c_lo | exact c_le | exact c_lt | exact c_pos | exact n_s1 | exact n_eq | exact p_1 | exact p_11 | exact q_1 | exact q_11 | exact r_1 | exact r_11 | exact r_2 | exact s_1 | exact s_11 | exact s_2) | decide | omega) (by first | (with_reducible first | assumption | exact u_1 | exact u_2 | exact u_3 | exact i_0 | exact i_1 | exact i_2 | exact n_le | exact sub0 | exact c_0 | exact c_lo | exact c_le | exact c_lt | exact c_pos | exact n_s1 | exact n_eq | exact p_1 | exact p_11 | exact q_1 | exact q_11 | exact r_1 | exact r_11 | exact r_2 | exact s_1 | exact s_11 | exact s_2) | decide | omega) (by first | (with_reducible first | assumption | exact u_1 | exact u_2 | exact u_3 | exact i_0 | exact i_1 | exact i_2 | exact n_le | exact sub0 | exact c_0 | exact c_lo | exact c_le | exact c_lt | exact c_pos | exact n_s1 | exact n_eq | exact p_1 | exact p_11 | exact q_1 | exact q_11 | exact r_1 | exact r_11 | exact r_2 | exact s_1 | exact s_11 | exact s_2) | decide | omega) (by first | (with_reducible first | assumption | exact u_1 | exact u_2 | exact u_3 | exact i_0 | exact i_1 | exact i_2 | exact n_le | exact sub0 | exact c_0 | exact c_lo | exact c_le | exact c_lt | exact c_pos | exact n_s1 | exact n_eq | exact p_1 | exact p_11 | exact q_1 | exact q_11 | exact r_1 | exact r_11 | exact r_2 | exact s_1 | exact s_11 | exact s_2) | decide | omega)) ((rangeSize_nat _ _).trans (by first | (with_reducible first | assumption | exact u_1 | exact u_2 | exact u_3 | exact i_0 | exact i_1 | exact i_2 | exact n_le | exact sub0 | exact c_0 | exact c_lo | exact c_le | exact c_lt | exact c_pos | exact n_s1 | exact n_eq | exact p_1 | exact p_11 | exact q_1 | exact q_11 | exact r_1 | exact r_11 | exact r_2 | exact s_1 | exact s_11 | exact s_2) | decide | omega)) (by rw [sizeLine_eq]; first | (with_reducible first | assumption | exact u_1 | exact u_2 | exact u_3 | exact i_0 | exact i_1 | exact i_2 | exact n_le | exact sub0 | exact c_0 | exact c_lo | exact c_le | exact c_lt | exact c_pos | exact n_s1 | exact n_eq | exact p_1 | exact p_11 | exact q_1 | exact q_11 | exact r_1 | exact r_11 | exact r_2 | exact s_1 | exact s_11 | exact s_2) | decide | omega) ?_)
      intro g1
      refine rest_lits nn ⟨by assumption, by assumption, by assumption⟩ ⟨rfl, rfl, by k_room, by k_room, rfl, rfl⟩ T2 hi hn (by first | (with_reducible first | assumption | exact u_1 | exact u_2 | exact u_3 | exact i_0 | exact i_1 | exact i_2 | exact n_le | exact sub0 | exact c_0 | exact c_lo | exact c_le | exact c_lt | exact c_pos | exact n_s1 | exact n_eq | exact p_1 | exact p_11 | exact q_1 | exact q_11 | exact r_1 | exact r_11 | exact r_2 | exact s_1 | exact s_11 | exact s_2) | decide | omega) (by first | (with_reducible first | assumption | exact u_1 | exact u_2 | exact u_3 | exact i_0 | exact i_1 | exact i_2 | exact n_le | exact sub0 | exact c_0 | exact c_lo | exact c_le | exact c_lt | exact c_pos | exact n_s1 | exact n_eq | exact p_1 | exact p_11 | exact q_1 | exact q_11 | exact r_1 | exact r_11 | exact r_2 | exact s_1 | exact s_11 | exact s_2) | decide | omega) ?_ ?_
      · intro news ys I oI C oC D m₂ h3 tk3 Q' E' K3 hC F3 N3 off ne hcall
        have hcell3 := List.Mem.tail (I, oI) (List.Mem.tail (C, oC) (List.Mem.tail (D, LCg.lst ys) (K3 _ hcell2 (fun e => absurd (List.mem_singleton.mp e) (Nat.ne_of_gt (Nat.lt_succ_of_lt hltp))))))
        k_steps
        exact Mark.un hcall
      · intro qs news hl K3 T3 hq
        unfold LCg.FinE
        intro D h3 tk3 F3 N3 o1
        have oo := off1_mem o1
        dsimp only
        k_steps
        rename Fr _ _ _ _ => kF2
        rename News _ _ _ _ => kN2
        refine Mark.un (set_list (qs := qs) kF2 kN2 rfl (by k_room) (List.mem_cons_self ..) (fun q hq' => (hq q hq').1.mono fun p hp => List.mem_cons_of_mem _ hp) (by first | (with_reducible first | assumption | exact u_1 | exact u_2 | exact u_3 | exact i_0 | exact i_1 | exact i_2 | exact n_le | exact sub0 | exact c_0 | exact c_lo | exact c_le | exact c_lt | exact c_pos | exact n_s1 | exact n_eq | exact p_1 | exact p_11 | exact q_1 | exact q_11 | exact r_1 | exact r_11 | exact r_2 | exact s_1 | exact s_11 | exact s_2) | decide | omega) ?_)
        intro S oS h4 tk4 F4 N4 l4 hS
        dsimp only
        k_steps
        refine Mark.un (sorted_lits F4 N4 rfl (List.mem_cons_self ..) (setLits_mono hS fun p hp => List.mem_cons_of_mem _ hp) ?_)
        intro D5 h5 tk5 d5 qs5 c5 F5 N5 l5 asc5 hin5 len5 mem5
        dsimp only
        k_steps
        refine Mark.un (kde_tupleOf F5 N5 (N5.isList (n := c5) (d := none) (sl := #[]) (List.mem_cons_self ..)) (by simp only [refs, List.size_toArray, List.length_map]; first | (with_reducible first | assumption | exact u_1 | exact u_2 | exact u_3 | exact i_0 | exact i_1 | exact i_2 | exact n_le | exact sub0 | exact c_0 | exact c_lo | exact c_le | exact c_lt | exact c_pos | exact n_s1 | exact n_eq | exact p_1 | exact p_11 | exact q_1 | exact q_11 | exact r_1 | exact r_11 | exact r_2 | exact s_1 | exact s_11 | exact s_2) | decide | omega) rfl ?_)
        intro D6 h6 F6 N6 l6
        dsimp only
        k_steps
        rename Fr h₀ _ _ _ => kF6
        rename News h₀ _ _ _ => kN6
        refine h (qs5.map (·.1)) D6 _ h6 tk5 d5 _ ?_ ⟨qs5, _, List.mem_cons_self .., rfl, fun q hq' => (hin5 q hq').mono fun p hp => List.mem_cons_of_mem _ (List.mem_cons_of_mem _ hp)⟩ ?_ ?_ kF6 kN6 (T3.sub fun p hp => List.Mem.tail _ (List.Mem.tail _ (List.Mem.tail _ (List.Mem.tail _ hp)))) (fun p hp hnt => ?_)
        · intro l hl'
          have := (mem5 l).mp hl'
          refine hide_goal fun kHide => ?_
          obtain ⟨q, hq', rfl⟩ := List.mem_map.mp this
          refine kHide ?_
          clear kHide
          exact (hq q hq').2
        · first | (with_reducible first | assumption | exact u_1 | exact u_2 | exact u_3 | exact i_0 | exact i_1 | exact i_2 | exact n_le | exact sub0 | exact c_0 | exact c_lo | exact c_le | exact c_lt | exact c_pos | exact n_s1 | exact n_eq | exact p_1 | exact p_11 | exact q_1 | exact q_11 | exact r_1 | exact r_11 | exact r_2 | exact s_1 | exact s_11 | exact s_2) | decide | omega
        · first | (with_reducible first | assumption | exact u_1 | exact u_2 | exact u_3 | exact i_0 | exact i_1 | exact i_2 | exact n_le | exact sub0 | exact c_0 | exact c_lo | exact c_le | exact c_lt | exact c_pos | exact n_s1 | exact n_eq | exact p_1 | exact p_11 | exact q_1 | exact q_11 | exact r_1 | exact r_11 | exact r_2 | exact s_1 | exact s_11 | exact s_2) | decide | omega
        · exact List.Mem.tail _ (List.Mem.tail _ (List.Mem.tail _ (List.Mem.tail _ (K3 p (K2 p (K1 p (up1 _ _ p hp) hnt) hnt) hnt))))
end
end Mine
end

section
set_option maxRecDepth 100000
set_option maxHeartbeats 4000000
open PySem PySem.Spec PySem.W PySem.Calls PyProof.Rows
namespace Mine
theorem fresh_E13 : True := by
  w_top off
  trivial
noncomputable def HeldD (base : Heap) (l : List Env) (e : Addr) (cls a0 : Value) (L : Addr) (d : Option Addr) (h : Heap) : Prop :=
  base.StaysIn h ∧ base.get? e = none ∧ h.FunFrames base l ∧ TracedAtD h base e cls a0 (rawInt L) d
theorem TracedD.at {h base : Heap} {e : Addr} {cls a0 : Value} {d : Option Addr} (x : TracedD h base e cls a0 d) : TracedAtD h base e cls a0 .none d := x
section
variable {M : Model} {A : Around} {E : Value → Shared → Prop} {s : Shared}
theorem looksD {base : Heap} {env : Env} {outer : List Env} {L e : Addr} {cls a0 : Value} {d : Option Addr} {Q : Unit → Shared → Prop}
    (hfr : A.frames = some (env :: outer)) (hf : env.frame = some L) (hfl : FlyingD base (env :: outer) e cls a0 d s.heap)
    (hQ : ∀ h', HeldD base (env :: outer) e cls a0 L d h' → s.heap.UpToSlots h' → Q () { s with heap := h' }) : wpAny M A (noteFrame (.ref e) env) Q E s := by
  refine hide_goal fun kHide => ?_
  obtain ⟨f1, f2, f3, f4⟩ := hfl
  refine kHide ?_
  clear kHide
  refine noteFrame_onD hfr f3 hf f4 f1 f2 fun h' hN => ?_
  refine hide_goal fun kHide => ?_
  obtain ⟨k1, k2, k3, k4⟩ := hN
  refine kHide ?_
  clear kHide
  exact hQ h' ⟨k1, f2, k2, k3⟩ k4
theorem landsD {base : Heap} {l : List Env} {e L : Addr} {cls a0 : Value} {d : Option Addr} {Q : Unit → Shared → Prop} (hh : HeldD base l e cls a0 L d s.heap)
    (hQ : ∀ h', FlyingD base l e cls a0 d h' → s.heap.UpToSlots h' → Q () { s with heap := h' }) : wpAny M A (setFlight (.ref e) none) Q E s := by
  refine hide_goal fun kHide => ?_
  obtain ⟨f1, f2, f3, f4⟩ := hh
  refine kHide ?_
  clear kHide
  exact setFlight_noneD f1 f3 f4 fun h' k1 k2 k3 k4 => hQ h' ⟨k1, f2, k2, k3⟩ fun b o hb hn => ⟨o.slots, k4 b o hb hn⟩
theorem lands_againD {base : Heap} {l : List Env} {e : Addr} {cls a0 : Value} {d : Option Addr} {Q : Unit → Shared → Prop} (hh : FlyingD base l e cls a0 d s.heap)
    (hQ : ∀ h', FlyingD base l e cls a0 d h' → s.heap.UpToSlots h' → Q () { s with heap := h' }) : wpAny M A (setFlight (.ref e) none) Q E s := by
  refine hide_goal fun kHide => ?_
  obtain ⟨f1, f2, f3, f4⟩ := hh
  refine kHide ?_
  clear kHide
  exact setFlight_noneD f1 f3 f4.at fun h' k1 k2 k3 k4 => hQ h' ⟨k1, f2, k2, k3⟩ fun b o hb hn => ⟨o.slots, k4 b o hb hn⟩
end
theorem inst_of {g h : Heap} {L e C dx : Addr} {oe od : Obj} {nw : Led} (N : News g L h nw) (hm : (e, oe) ∈ nw) (hc : oe.cls = .ref C ∧ oe.dict = some dx ∧ notCls oe = true) (hm2 : (dx, od) ∈ nw) : InstAt h e oe C (some od) := by
  refine hide_goal fun kHide => ?_
  obtain ⟨h1, h2, h3⟩ := hc
  refine kHide ?_
  clear kHide
  exact ⟨(N _ hm).1, h1, h3, by rw [h2]; exact (N _ hm2).1⟩
section
variable {prog : Program} {w : World} {A₀ : Around} {E : Value → Shared → Prop} {s' : Shared} {base g G : Heap} {outer : List Env} {L a e t C dx : Addr} {m : Str → Option Value} {name : Str} {scope : Scope} {cd : Value}
  {n : Str} {b₀ : Stmt} {suite : List Stmt} {pos np : Pos} {rest : List ExceptHandler} {Q : Flow → Shared → Prop} {nw : Led} {KF : Frag}
  {p : Program} {loose : List Str} {mean : ExcName → Option Value} {mg mb : Str → Option Value} {x : Str}
theorem caught_D (R : FaultUp base G (envOf name scope L a cd :: outer) e C t dx nw s'.heap) (F : Fr g L G m) (K : Below A₀ base outer g) (hsm : G.UpToSlots s'.heap) (XB : KF.In base) (TB : Top p loose mean mg mb base)
    (ex : nsIn KF mainGlobals x = some (some (.ref C))) (q : ktsIn KF C "BaseException" = true)
    (k : ∀ h' g' oe tk, KtsTurn (outer.filterMap (·.frame)) g g' → Fr g' L h' (fun y => if y = n then some (.ref e) else m y) → News g' L h' ((e, oe) :: nw) → (oe.cls = .ref C ∧ oe.dict = some dx ∧ notCls oe = true) → Below A₀ base outer g' → KF.In g' → Top p loose mean mg mb g' →
      wpAny (model prog w) ((A₀.deeper (envOf name scope L a cd)).mark (some (.ref e))) (execs (b₀ :: suite) (envOf name scope L a cd))
        (fun f s₄ => wpAny (model prog w) (A₀.deeper (envOf name scope L a cd)) (do bindName (envOf name scope L a cd) n .none; unbindBehindTheSuite (envOf name scope L a cd) n pos) (fun _ s₅ => Q f s₅) E s₄)
        (AsSuiteRaised (model prog w) ((A₀.deeper (envOf name scope L a cd)).mark (some (.ref e))) (envOf name scope L a cd) n pos (notedBy (model prog w) ((A₀.deeper (envOf name scope L a cd)).mark (some (.ref e))) (envOf name scope L a cd) (cameBackBy (model prog w) (A₀.deeper (envOf name scope L a cd)) (envOf name scope L a cd) E)))
        { s' with heap := h', toks := tk })
    (hk : scope.kind = .function := by rfl) (hlo : (envOf name scope L a cd).kindOf n = some .local := by rfl) (hx : (envOf name scope L a cd).kindOf x = some .globalImplicit := by rfl) (hd : (x == ("__debug__" : Str)) = false := by decide) :
    wpAny (model prog w) (A₀.deeper (envOf name scope L a cd)) (noteFrame (.ref e) (envOf name scope L a cd))
      (fun _ s₂ => wpAny (model prog w) (A₀.deeper (envOf name scope L a cd)) (setFlight (.ref e) none) (fun _ s₃ =>
        wpAny (model prog w) (A₀.deeper (envOf name scope L a cd)) (handleBy (.ref e) (envOf name scope L a cd) (.ExceptHandler (some (.Name x np)) (some n) (b₀ :: suite) pos :: rest)) Q E s₃) E s₂) E s' := by
  refine hide_goal fun kHide => ?_
  obtain ⟨B, hB, hBG, hl, hfl⟩ := R
  refine kHide ?_
  clear kHide
  have hL : B.get? L = none := by
    refine hide_goal fun kHide => ?_
    obtain ⟨_, ⟨L', _, hf, hn', _⟩, _⟩ := hfl.2.2.1
    refine kHide ?_
    clear kHide
    obtain rfl : L = L' := Option.some.inj hf
    exact hn'
  refine looksD (Around.frames_deeper K.stack) rfl hfl fun h₄ hheld₄ hsm₄ => ?_
  refine landsD hheld₄ fun h₅ hheld hsm₅' => ?_
  have hsm₅ := hsm₄.trans hsm₅'
  refine hide_goal fun kHide => ?_
  obtain ⟨g₅, T₅, F₅, K₅⟩ := kts_ground K F hBG hheld.1 (hsm.trans hsm₅)
  refine kHide ?_
  clear kHide
  have X₅ : KF.In g₅ := XB.keeps K₅.stays
  have P₅ : TopRead p loose mg mb g₅ := topRead_of (TB.keeps K₅.stays)
  refine hide_goal fun kHide => ?_
  obtain ⟨ob, _, _, _, _, hob, ⟨hobc, _⟩, _⟩ := hheld.2.2.2
  obtain ⟨nm, q', N, bs, bm, hdct, sn, sub, ab, col, dd, k0, k1, k2, k3, k5, newId, hC, hbase, hbT⟩ := kts_cls X₅ q
  refine kHide ?_
  clear kHide
  have hC₅ := F₅.keep _ _ hC
  refine wpAny_handleBy_cons (codeAny_handlers_test (name_K F₅ X₅ P₅ ex ?_ hk hx hd)) (by intro q; cases q)
  refine wpAny_excMatches_sub_self hC₅ hob hobc hbase (codeAny_handlers_suite_as ?_)
  refine lands_againD hheld fun h₆ hfl₆ hsm₆ => ?_
  refine hide_goal fun kHide => ?_
  obtain ⟨g₆, T₆, F₆, K₆⟩ := kts_ground K F hBG hfl₆.1 ((hsm.trans hsm₅).trans hsm₆)
  obtain ⟨oe, vs, T, oT, ts, hoe, ⟨hoec, hoedd, hoe0⟩, hoed, _⟩ := hfl₆.2.2.2
  refine kHide ?_
  clear kHide
  have ne₆ : g₆.get? e = none := T₆.none_ _ (kts_fresh F hBG hfl₆.2.1 fun o ho m => by
    refine hide_goal fun kHide => ?_
    obtain ⟨_, o', ho', hd⟩ := K.frames.mem m
    refine kHide ?_
    clear kHide
    rw [ho] at ho'
    cases ho'
    refine hide_goal fun kHide => ?_
    obtain ⟨sl, hs⟩ := ((hsm.trans hsm₅).trans hsm₆) _ _ (F.keep _ _ ho) hd
    refine kHide ?_
    clear kHide
    rw [hoe] at hs
    cases hs
    exact hd _ hoed)
  have N₆ := News.more F₆ News.nil hoe (fun es n q => by rw [hoed] at q; cases q) ne₆
  have Nl : News g₆ L h₆ nw := fun q hq => ⟨hfl₆.1 _ _ (hl q hq).1, (fun z => by have := (hl q hq).1; rw [z, hL] at this; cases this), T₆.none_ _ (kts_none F.keep (hl q hq).2)⟩
  have X₆ : KF.In g₆ := XB.keeps K₆.stays
  have P₆ : Top p loose mean mg mb g₆ := TB.keeps K₆.stays
  refine stN F₆ (news := [(e, oe)] ++ nw) (fun q hq => (List.mem_append.mp hq).elim (N₆ q) (Nl q)) (fun h₇ F₇ N₇ => ?_) hk hlo
  exact k h₇ g₆ oe _ T₆ F₇ N₇ ⟨hoec, hoedd, by unfold notCls; rw [hoed]⟩ K₆ X₆ P₆
end
end Mine
end

section
set_option maxRecDepth 100000
set_option maxHeartbeats 4000000
open PySem PySem.Spec PySem.W PySem.Calls PyProof.Rows
namespace Mine
theorem fresh_E14 : True := by
  w_top off
  trivial
section
variable {prog : Program} {w : World} {A₀ A : Around} {s : Shared} {base h₀ : Heap} {L : Addr} {m : Str → Option Value} {env : Env} {news : Led} {K : Frag} {p : Program} {loose : List Str} {mean : ExcName → Option Value} {mg mb : Str → Option Value}
    {R : Result → Shared → Prop} {name qual : Str} {params : Arguments} {body : List Stmt} {scope : Scope} {dV kV doc pm cdv ct oc : Value} {an od : Option Addr} {osl : Array (Option Value)} {f : Addr} {args : Args} {binds : List (Str × Value)}
/-- entering a def from the lowest frame, whose slots may change meanwhile -/
theorem code_defX0 (B : Below A₀ base [] h₀) (F : Fr h₀ L s.heap m) (X₀ : K.In h₀) (N : News h₀ L s.heap news) (T : Top p loose mean mg mb h₀) (hA : A.frames = some [env]) (hf : env.frame = some L) (hke : env.scope.kind = .function)
    (ho : K.lookup f = some ⟨oc, od, .func (fnOf name qual params body scope dV kV doc pm an cdv ct), osl⟩) (hcd : codeIn K cdv qual = true) (hroom : A.depth < recursionLimit)
    (hbind : BindsTo s (fnOf name qual params body scope dV kV doc pm an cdv ct) args binds) (hloc : ∀ y ∈ binds, scope.names.lookup y.1 = some .local)
    (h : ∀ g L' h₁, Fr h₀ L g m → Fr g L' h₁ (fun y => binds.reverse.lookup y) → News g L' h₁ news → Below A base [env] g → K.In g → Top p loose mean mg mb g →
      wpAny (model prog w) (A.deeper (envOf qual scope L' f cdv)) (execs body (envOf qual scope L' f cdv))
        (fun fl s' => LeaveS0 ([env].filterMap (·.frame)) h₀ L m g R (match fl with | .ret v => v | _ => .none) s')
        (fun e s' => wpAny (model prog w) (A.deeper (envOf qual scope L' f cdv)) (leaving (envOf qual scope L' f cdv) e) (fun _ s'' => R (.error e) s'') (fun e' s'' => R (.error e') s'') s')
        { s with heap := h₁, toks := s.toks + binds.length })
    (hco : scope.isCoroutine = false) (hgen : scope.isGenerator = false) (hk : scope.kind = .function)
    (hcell : ∀ x ∈ scope.names, x.2 ≠ .cell) : codeAny (model prog w) A (.call (.ref f) args) R s := by
  have X := X₀.keeps F.keep
  refine hide_goal fun kHide => ?_
  obtain ⟨FG, B₂, st, _⟩ := groundX (R := R) B F N hA hf hke
  refine kHide ?_
  clear kHide
  refine codeAny_call_def (fd := fnOf name qual params body scope dV kV doc pm an cdv ct) (body := body) (binds := binds) hroom (X _ _ ho) rfl (T.nolimit.keeps F.keep) (codeRec_of X hcd) rfl hbind hcell hloc (fun h₁ hns hk₁ => ?_) hco hgen hk
  refine hide_goal fun kHide => ?_
  obtain ⟨oL, es, ep, hLg, hLd, hLk, hLf⟩ := FG.ns
  refine kHide ?_
  clear kHide
  refine wpAny_mono (h _ s.heap.objs.size h₁ ⟨⟨oL, es, ep, hLg, hLd, hLk, hLf⟩, st, F.above⟩ ⟨hns, fun b o e => hk₁ b o (of_hideAll _ e), Nat.le_of_eq (hideAll_size _ _)⟩
    (fun p hp => ⟨hk₁ _ _ (N p hp).1, Nat.ne_of_lt (Heap.lt_size (N p hp).1), hideAll_none _ (List.mem_map_of_mem hp)⟩) B₂ (X₀.keeps st) (T.keeps st)) (fun fl s' hl => ?_) fun _ _ y => y
  refine hide_goal fun kHide => ?_
  obtain ⟨g', L', m', news', T', F', N', k⟩ := hl
  refine kHide ?_
  clear kHide
  have nL₀ : h₀.get? L = none := kts_self F
  refine hide_goal fun kHide => ?_
  obtain ⟨sl, hs⟩ := T'.up hLg
  refine kHide ?_
  clear kHide
  refine k ⟨⟨_, es, ep, F'.keep _ _ hs, hLd, hLk, hLf⟩, fun b o e => F'.keep b o (T'.other b o (st b o e) (fun q => by
    simp only [List.filterMap_cons, hf, List.filterMap_nil, List.mem_singleton] at q
    rw [q, nL₀] at e
    cases e)), F.above⟩ fun p hp => ⟨(N' p hp).1, fun q => ?_, ?_⟩
  · have := (N' p hp).2.2; rw [q, hs] at this; cases this
  · cases q : h₀.get? p.1 with
    | none => rfl
    | some o =>
      refine hide_goal fun kHide => ?_
      obtain ⟨sl', hs'⟩ := T'.up (st _ _ q)
      refine kHide ?_
      clear kHide
      have := (N' p hp).2.2
      rw [hs'] at this
      cases this
end
end Mine
end

section
set_option maxRecDepth 100000
set_option maxHeartbeats 400000
open PySem PySem.Spec PySem.W PySem.Calls PyProof.Rows
namespace Mine
theorem fresh_E15 : True := by
  w_top off
  trivial
section
variable {prog : Program} {w : World} {A : Around} {E : Value → Shared → Prop} {s : Shared} {K : Frag} {x C : Addr} {ox : Obj} {od : Option Obj} {name : Str} {expr : Bool} {Q : Value → Shared → Prop} {cd : ClassData}
theorem looks_kind : builtinKind "BaseException.__getattribute__" = some .slot := by decide +kernel
theorem looks_split : splitId "BaseException.__getattribute__" = some ("BaseException", "__getattribute__") := by decide +kernel
theorem not_plain : (Value.builtin "BaseException.__getattribute__" == Value.builtin "object.__getattribute__") = false := by decide +kernel
theorem exc_ga_call {v : Value} {tk : Tok} {R : Result → Shared → Prop} (X : K.In s.heap) (I : InstAt s.heap x ox C od) (hm : mroIn K C (.type "BaseException") = some true) (hf : findObj K C od name = some (.value v)) (q : R (.ok (.ret v)) s) :
    codeAny (model prog w) A (.call (.builtin "BaseException.__getattribute__") ⟨[.ref x, .str name tk], []⟩) R s := by
  have L0 := I.type (M := model prog w)
  have L3 := looks_find (M := model prog w) X I hf
  have sub : Looks (model prog w) s.heap (isInstance (.ref x) (.type "BaseException")) true := L0.andThen (looks_mroIn X hm)
  refine codeAny_call_builtin PySem.F.attr_Exception.ga.plain PySem.F.entry_bexc_ga ?_
  refine @check_slot (model prog w) _ _ s "BaseException.__getattribute__" "BaseException" "__getattribute__" (.ref x) [.str name tk] [] _ looks_kind looks_split sub (PySem.F.args_bexc_ga _ _) ?_
  unfold Builtin.«object.__getattribute__»
  refine wpAny_bind (wpAny_pure (wpAny_bind (wpAny_pure (wpAny_bind (L0.here (wpAny_bind (L3.here ?_)))))))
  exact wpAny_pure q
/-- reading what an exception's own dict holds -/
theorem get_exc {v : Value} (X : K.In s.heap) (I : InstAt s.heap x ox C od) (hga : findIn K (.ref C) "__getattribute__" = some (some (.builtin "BaseException.__getattribute__"))) (hgt : findIn K (.ref C) "__getattr__" = some none)
    (hm : mroIn K C (.type "BaseException") = some true)
    (hf : findObj K C od name = some (.value v)) (hh : handedIn v = true) (h : Q v { s with toks := s.toks + 1 }) : wpAny (model prog w) A (getAttr (.ref x) name expr) Q E s := by
  obtain ⟨hp, g, d, t, os⟩ := s
  have L0 := I.type (M := model prog w)
  have L1 := looks_findIn (M := model prog w) X hga
  have L2 := looks_findIn (M := model prog w) X hgt
  have L3 := looks_find (M := model prog w) X I hf
  have sub : Looks (model prog w) hp (isInstance (.ref x) (.type "BaseException")) true := L0.andThen (looks_mroIn X hm)
  have f3 := PySem.F.attr_Exception.ga.bind (.ref x)
  have hx0 : (expr && onTheHeap (Value.builtin "BaseException.__getattribute__")) = false := by cases expr <;> rfl
  unfold getAttr getAttrBy
  refine wpAny_bind (wpAny_mkText (wpAny_holding (wpAny_bind (L0.at (wpAny_bind (L1.at ?_))))))
  dsimp only
  rw [if_neg (show ¬ ((onTheHeap (Value.ref C) && Value.builtin "BaseException.__getattribute__" == Value.builtin "object.__getattribute__") = true) from by rw [not_plain, Bool.and_false]; decide)]
  unfold getAttrByItsOwn hookBefore
  rw [if_pos (show onTheHeap (Value.ref C) = true from rfl)]
  refine wpAny_bind (L2.at (wpAny_bind (wpAny_attempt (wpAny_holding ?_))))
  unfold callGetattribute
  rw [if_neg (show ¬ ((expr && onTheHeap (Value.builtin "BaseException.__getattribute__")) = true) from by rw [hx0]; decide)]
  unfold boundAndCalled
  refine wpAny_bind ?_
  rw [f3]
  refine wpAny_pure ?_
  refine wpAny_call (exc_ga_call X I hm hf ?_)
  show wpAny _ _ (handedOut v) _ _ _
  rw [handedOut_of hh]
  exact wpAny_pure h
theorem get_exc_own {h₀ : Heap} {L : Addr} {m : Str → Option Value} {es : List DictEntry} {n : Nat} {v : Value} {attr : Option Value} (F : Fr h₀ L s.heap m) (X₀ : K.In h₀) (I : PySem.W.InstAt s.heap x ox C (some (dictOf es n))) (hga : findIn K (.ref C) "__getattribute__" = some (some (.builtin "BaseException.__getattribute__"))) (hgt : findIn K (.ref C) "__getattr__" = some none)
    (hm : mroIn K C (.type "BaseException") = some true) (hh : hasDictIn K C = true)
    (ha : findIn K (.ref C) name = some attr) (hn : noGet K attr = true) (hl : getL name es = some (some v)) (hv : handedIn v = true) (h : Q v { s with toks := s.toks + 1 }) :
    wpAny (model prog w) A (getAttr (.ref x) name expr) Q E s := get_exc (X₀.keeps F.keep) I hga hgt hm (findObj_own hh ha hn hl) hv h
end
end Mine
end

section
set_option maxRecDepth 100000
set_option maxHeartbeats 8000000
open PySem PySem.W PySem.Calls PyProof.Rows
namespace Mine
theorem fresh_W12 : True := by
  w_top off
  trivial
section
variable {w : World} {A₀ A : Around} {base h₀ : Heap} {outer : List Env} {env : Env} {L : Addr} {m mg mb : Str → Option Value} {mean : ExcName → Option Value} {E : Value → Shared → Prop} {s : Shared} {nw : Led}
local macro_rules | `(tactic| k_mem) => `(tactic| assumption)
local macro_rules | `(tactic| walk_at "call ref") => `(tactic| (k_here; (with_reducible show wpAny _ _ (call (Value.ref 111) _) _ _ _); refine Mark.go ?_))
local macro_rules | `(tactic| walk_at "call builtin:len") => `(tactic| (k_here; refine Mark.go ?_))
local macro_rules | `(tactic| k_inst) => `(tactic| exact inst_of (by assumption) (List.Mem.head _) (by assumption) (List.Mem.tail _ (List.Mem.head _)))
theorem tell_N {lg ld sl pd ca : Addr} {st : List Step} {c : Clause} {sp : Int} {spt : Tok} {Q : Value → Shared → Prop}
    (G : Gr w A₀ base h₀ [] mean mg mb) (a0 : Ar 45 180 A env [] L) (F : Fr h₀ L s.heap m) (N : News h₀ L s.heap nw) (La : LogAt w lg ld sl pd st nw) (hlen : st.length ≤ 90) (hca : ClIn nw c ca) (hcok : ClOk c)
    (h : ∀ i st' t h' tk nw', statedR st c sp = some (i, st') → Fr h₀ L h' m → News h₀ L h' nw' → LogAt w lg ld sl pd st' nw' → Keep [sl, pd] nw nw' → Q (.int (i : Nat) t) { s with heap := h', toks := tk })
    (hr : ∀ t h' tk nw', statedR st c sp = none → Fr h₀ L h' m → News h₀ L h' nw' → LogAt w lg ld sl pd st nw' → Keep [sl, pd] nw nw' → Q (.str (Str.ofString "refused") t) { s with heap := h', toks := tk }) :
    wpAny (model PR w) A (call (.ref 194) [.ref lg, .ref ca, .int sp spt]) Q E s := by
  refine hide_goal fun kHide => ?_
  obtain ⟨t1, t2, sv, n0, po, xs0, m1, m2, m3, _, _, _, hst, _⟩ := La.ex
  refine kHide ?_
  clear kHide
  have hsz : ((sv.toArray.size : Nat) : Int) = ((st.length : Nat) : Int) := by rw [List.size_toArray, hst.length]
  have hsz2 : sv.toArray.size ≤ sizeLine := by rw [List.size_toArray, hst.length, sizeLine_eq]; omega
  clear hst
  obtain ⟨hd, dp, fr, gs, u⟩ := A
  obtain ⟨⟨kd, nm, ig, ic, mo⟩, lc, gl, ce, ql, fu, co, frm, bt⟩ := env
  refine hide_goal fun kHide => ?_
  obtain ⟨rfl, rfl, hdp, hun, hlo, hki⟩ := a0
  refine kHide ?_
  clear kHide
  dsimp only at hlo hki
  subst hlo hki
  refine hide_goal fun kHide => ?_
  obtain ⟨B0, X, T⟩ := G
  refine kHide ?_
  clear kHide
  have B : Below A₀ h₀ [] h₀ := ⟨B0.stack, fun _ _ e => e, trivial⟩
  clear B0
  have fill : (∀ P : Params, Ahead.heap_1_39 P = Ahead.heap_1_39 P) ∧ PySem.Challenge.rw_qd0004_01 = PySem.Challenge.rw_qd0004_01 := by
    k_fill
    exact ⟨fun _ => rfl, rfl⟩
  clear fill
  dsimp only at hdp hun
  refine wpAny_call ?_
  refine' code_defX0 ?k1 ?k2 ?k3 ?k4 ?k5 ?kA ?kf ?kk ?k6 ?k7 ?k8 ?k9 ?kB ?_ ?c2 ?c3 ?c4 ?c5
  case kA => exact rfl
  case kf => exact rfl
  case kk => exact rfl
  case k2 => k_asm
  case k1 => k_asm
  case k3 => k_asm
  case k4 => k_asm
  case k5 => k_asm
  case k6 => k_is
  case k7 => k_is
  case k8 => k_room
  case k9 => first | exact binds_K (by k_in) rfl (by k_is) rfl rfl rfl | exact BindsTo.of_eq rfl
  case kB => exact locs rfl
  case c2 => exact rfl
  case c3 => exact rfl
  case c4 => exact rfl
  case c5 => decide
  intro g' L' h' FG' F' N' B' X' T'
  (try dsimp only)
  (try k_lift B')
  (try k_fold)
  k_steps
  refine Mark.un (stated_R ⟨by assumption, by assumption, by assumption⟩ ⟨rfl, rfl, by k_room, by k_room, rfl, rfl⟩ (by assumption) (by assumption) La hlen hca hcok ?_ ?_)
  · intro i st' t h2 tk2 nw2 hs2 F2 N2 L2 K2
    dsimp only
    k_steps
    exact h i st' _ _ _ nw2 hs2 (by assumption) (by assumption) L2 K2
  · intro e dx t wt nt ta tb g' h' tk hn F2 U2 R2
    dsimp only
    refine' caught_D R2 F2 ?K U2 X T ?ex ?q ?_
    case K => assumption
    case ex => k_is
    case q => kts_isx
    intro h6 g6 oe tk6 T6 F6 N6 hoe B6 X6 P6
    dsimp only
    have u1 : ∀ p ∈ nw, p ∈ (e, oe) :: (dx, faultD w faultS wt (st.length : Nat) nt ta tb) :: nw := fun p hp => List.Mem.tail _ (List.Mem.tail _ hp)
    have m1' := u1 _ m1
    have m2' := u1 _ m2
    k_steps
    refine' get_exc_own (K := Ahead.heap_1_39 w.params) (C := 76) F6 X6 ?k3 ?kga ?kgt ?km ?k5 ?k6 ?k7 ?k8 ?k9 ?_
    case k3 => exact inst_of N6 (List.Mem.head _) hoe (List.Mem.tail _ (List.Mem.head _))
    case kga => k_is
    case kgt => k_is
    case km => k_is
    case k5 => k_is
    case k6 => k_is
    case k7 => k_is
    case k8 => k_get
    case k9 => k_handed
    dsimp only
    k_steps
    refine Mark.un (len_led N6 (u1 _ m3) hsz2 fun t3 tk3 => ?_)
    rw [hsz]
    dsimp only
    k_steps
    · exact hr _ _ _ _ hn (by assumption) (by assumption) (La.sub u1) (Keep.of_sub u1)
    · exact absurd rfl (by assumption)
end
end Mine
end

section
set_option maxRecDepth 100000
set_option maxHeartbeats 2000000
open PySem PySem.W PySem.Calls PySem.Spec PyProof.Rows PyProof.Rows.LCg
namespace Mine
theorem fresh_C4 : True := by
  w_top off
  trivial
noncomputable def satI (sat : Nat → Bool) (n : Nat) : List Int := ((List.range n).filter sat).map fun (i : Nat) => (i : Int)
theorem satI_succ (sat : Nat → Bool) (n : Nat) : satI sat (n + 1) = satI sat n ++ if sat n then [(n : Int)] else [] := by
  unfold satI
  rw [List.range_succ, List.filter_append, List.map_append]
  cases h : sat n <;> simp [List.filter_cons, h]
section
variable {prog : Program} {w : World} {A : Around} {E : Value → Shared → Prop} {s : Shared} {h₀ : Heap} {L : Addr} {m : Str → Option Value} {env : Env}
theorem block_EP {iter ct : Expr} {a b : Str} {pe pa pb tp : Pos} {kk : Nat} {scope : Scope} {cl : List (Str × Addr)} {pos : Pos} {s₂ : Shared} {e it l : Addr} {items : Array Value} {news : Led} {RR : Value → Addr → Result → Shared → Prop} (sat : Nat → Bool)
    (hh : A.handled = none) (hei : e ≠ it) (hle : l ≠ e) (hli : l ≠ it) (hsz : items.size ≤ sizeLine)
    (hst : (∃ old, IsEnum s₂.heap e it 0 old) ∧ s₂.heap.IsListIter it l 0 ∧ s₂.heap.IsList l items)
    (hcell : ∀ y ∈ scope.names, y.2 ≠ .cell) (hkind : scope.kind = .function) (hxa : scope.names.lookup a = some .local) (hxb : scope.names.lookup b = some .local) (hab : ¬ a = b) (hda : (a == ("__debug__" : Str)) = false)
    (F : Fr h₀ L s₂.heap m) (N : News h₀ L s₂.heap news) (hLe : L ≠ e) (hLi : L ≠ it) (he₀ : h₀.get? e = none) (hi₀ : h₀.get? it = none) (off : ∀ p ∈ news, @Ne Nat p.1 e ∧ @Ne Nat p.1 it)
    (turn : ∀ i v t ys oC C D m₂ h tk (E' : Value → Shared → Prop), i < items.size → items[i]? = some v → NsObj oC m₂ → m₂ a = some (.int (i : Nat) t) → m₂ b = some v → Fr h₀ L h m → News h₀ L h ((C, oC) :: (D, lst ys) :: news) →
      wpAny (model prog w) A (isTrue ct (compEnvC scope cl C env) (eval ct (compEnvC scope cl C env))) (fun ok s' => ok = sat i ∧ ∃ tk', s' = { s₂ with heap := h, toks := tk' }) E' { s₂ with heap := h, toks := tk })
    (hRR : ∀ D C h tk m' ys, Fr h₀ L h m → News h₀ L h ((D, lst ys) :: news) → (∀ p ∈ news, @Ne Nat p.1 D) → h.Ns C m' → h₀.get? C = none → h₀.get? D = none → C ≠ L → D ≠ L → C ≠ D → (∀ p ∈ news, p.1 ≠ C) → IntsAre ys (satI sat items.size) → RR (.ref D) C (.ok .next) { s₂ with heap := h, toks := tk }) :
    wpAny (model prog w) A (newList []) (fun acc s₃ => wpAny (model prog w) A (newFunctionEnv scope env.globals cl [] env.qual none .none (some env)) (fun cenv s₄ =>
      codeAny (model prog w) A (.compStart (.ListComp (.Name a pe) [⟨.Tuple [.Name a pa, .Name b pb] kk tp, iter, [ct], 0⟩] scope pos) 0 (.ref e) acc { cenv with scope := relabel scope env }) (RR acc cenv.locals) s₄) E s₃) E s₂ := by
  refine wpAny_newObj_type (wpAny_newFunctionEnv hcell (by intro y hy; simp at hy) (fun h₁ hns₁ hsb₁ => ?_) hkind)
  dsimp only at hns₁ hsb₁ ⊢
  generalize hH2 : s₂.heap.push { cls := .type "list", dict := none, data := .seq ([] : List Value).toArray } = H2 at hns₁ hsb₁ ⊢
  have hC : H2.objs.size = s₂.heap.objs.size + 1 := by rw [← hH2, Heap.size_push]
  have hDC : s₂.heap.objs.size ≠ H2.objs.size := by rw [hC]; exact Nat.ne_of_lt (Nat.lt_succ_self _)
  have below : ∀ b, b < s₂.heap.objs.size → b ≠ H2.objs.size ∧ b ≠ s₂.heap.objs.size := fun b hb => ⟨by rw [hC]; exact Nat.ne_of_lt (Nat.lt_succ_of_lt hb), Nat.ne_of_lt hb⟩
  have hEl : e < s₂.heap.objs.size := by obtain ⟨⟨_, q⟩, _⟩ := hst; exact Heap.lt_size q
  have hIl : it < s₂.heap.objs.size := by obtain ⟨_, ⟨_, q, _⟩, _⟩ := hst; exact Heap.lt_size q
  have hLl : l < s₂.heap.objs.size := by obtain ⟨_, _, ⟨_, q, _⟩⟩ := hst; exact Heap.lt_size q
  have old : ∀ b o, s₂.heap.get? b = some o → h₁.get? b = some o := fun b o e => hsb₁.extBut b o (below b (Heap.lt_size e)).1 (Heap.get?_push_of_some _ (hH2 ▸ Heap.get?_push_of_some _ e))
  have hacc : h₁.get? s₂.heap.objs.size = some (lst []) := hsb₁.extBut _ _ hDC (Heap.get?_push_of_some _ (hH2 ▸ Heap.get?_push_size _ rfl))
  have W := (WalksT.enumerate (prog := prog) (w := w) hh e it l hei hle hli items).toU
  have hst₁ := W.frame 0 _ _ hst fun b _ o e => old b o e
  have fresh : ∀ a, s₂.heap.objs.size ≤ a → s₂.heap.get? a = none := fun a ha => by
    cases e : s₂.heap.get? a with
    | none => rfl
    | some o' => exact absurd (Heap.lt_size e) (Nat.not_lt.mpr ha)
  have fresh₀ : ∀ a, s₂.heap.objs.size ≤ a → h₀.get? a = none := fun a ha => by
    cases e : h₀.get? a with
    | none => rfl
    | some o' => have := F.keep a o' e; rw [fresh a ha] at this; cases this
  have hD₀ : h₀.get? s₂.heap.objs.size = none := fresh₀ _ (Nat.le_refl _)
  have hC₀ : h₀.get? H2.objs.size = none := fresh₀ _ (by rw [hC]; exact Nat.le_succ _)
  have hLlt : L < s₂.heap.objs.size := F.ns.lt
  have hDL : s₂.heap.objs.size ≠ L := Ne.symm (below L hLlt).2
  have hCL : H2.objs.size ≠ L := Ne.symm (below L hLlt).1
  have offD : ∀ p ∈ news, @Ne Nat p.1 s₂.heap.objs.size := fun p hp => (below _ (Heap.lt_size (N p hp).1)).2
  have offC : ∀ p ∈ news, @Ne Nat p.1 H2.objs.size := fun p hp => (below _ (Heap.lt_size (N p hp).1)).1
  have wr : ∀ b, b ≠ e → b ≠ it → b ∉ [e, it] := fun b h1 h2 hm => by
    rcases List.mem_cons.mp hm with q | hm
    · exact h1 q
    · exact h2 (List.mem_singleton.mp hm)
  have loop : ∀ s₃ : Shared, s₃ = { s₂ with heap := h₁, toks := s₂.toks + ([] : List (Str × Value)).length } →
      codeAny (model prog w) A (.compLoop (.ListComp (.Name a pe) [⟨.Tuple [.Name a pa, .Name b pb] kk tp, iter, [ct], 0⟩] scope pos) 0 (.ref e) (.ref s₂.heap.objs.size) (compEnvC scope cl H2.objs.size env))
        (RR (.ref s₂.heap.objs.size) H2.objs.size) s₃ := by
    rintro s₃ rfl
    refine kct_loop
      (fun k s' => ∃ h' tk i ys m', s' = { s₂ with heap := h', toks := tk } ∧ i ≤ items.size ∧ k = items.size + 1 - i ∧ ys.length ≤ i ∧ ((∃ old, IsEnum h' e it (i : Nat) old) ∧ h'.IsListIter it l i ∧ h'.IsList l items) ∧ Fr h₀ L h' m ∧ h'.Ns H2.objs.size m' ∧
        News h₀ L h' ((s₂.heap.objs.size, lst ys) :: news) ∧ IntsAre ys (satI sat i)) ?_ (items.size + 1)
      ⟨h₁, _, 0, [], _, rfl, Nat.zero_le _, rfl, Nat.le_refl _, hst₁, F.keeps old, hns₁, fun p hp => ?_, .nil⟩
    · rintro k s' ⟨h', tk, i, ys, m', rfl, hi, rfl, hyl, hst', F', hn', N', hys⟩
      by_cases hlt : i < items.size
      · refine W.item i _ _ _ hlt hst' fun T vals h₂ tk₂ hP hT hMd hk₂ => ?_
        refine hide_goal fun kHide => ?_
        obtain ⟨t, v, hv, rfl⟩ := hP
        refine kHide ?_
        clear kHide
        refine W.go _ _ _ i T _ _ _ hMd fun h₃ hst₃ hk₃ => ?_
        have hT₃ : h₃.IsTuple T #[.int (i : Nat) t, v] := by
          refine hide_goal fun kHide => ?_
          obtain ⟨o, q, r⟩ := hT
          refine kHide ?_
          clear kHide
          exact ⟨o, hk₃ T o (W.apart i T _ hMd) q, r⟩
        have up₃ : ∀ c o, c ≠ e → c ≠ it → h'.get? c = some o → h₃.get? c = some o := fun c o h1 h2 q => hk₃ c o (wr c h1 h2) (hk₂ c o (wr c h1 h2) q)
        refine kcp_assign (env := compEnvC scope cl H2.objs.size env) hh hT₃ (lookup_relabel_local hxa) (lookup_relabel_local hxb) (by simp [compEnvC, relabel, hkind]) (hn'.at' fun o q => up₃ _ o (Ne.symm (below e hEl).1) (Ne.symm (below it hIl).1) q) fun h₄ tk₄ hn₄ hs₄ => ?_
        have up : ∀ c o, c ≠ e → c ≠ it → c ≠ H2.objs.size → h'.get? c = some o → h₄.get? c = some o := fun c o h1 h2 h3 q => hs₄ c o h3 (up₃ c o h1 h2 q)
        have hst₄ := W.frame (i + 1) _ h₄ hst₃ fun b hb o q => hs₄ b o (fun z => by
          have hb' : b = e ∨ b = it ∨ b = l := by simpa using hb
          rcases hb' with rfl | rfl | rfl
          · exact (below _ hEl).1 z
          · exact (below _ hIl).1 z
          · exact (below _ hLl).1 z) q
        refine hide_goal fun kHide => ?_
        obtain ⟨oC, heC, hoC⟩ := ns_obj hn₄
        refine kHide ?_
        clear kHide
        have F₄ : Fr h₀ L h₄ m := ⟨F'.ns.at' fun o q => up _ o hLe hLi (Ne.symm hCL) q, fun c o q => up c o (fun z => by rw [z, he₀] at q; cases q) (fun z => by rw [z, hi₀] at q; cases q) (fun z => by rw [z, hC₀] at q; cases q) (F'.keep c o q), F'.above⟩
        have N₄ : News h₀ L h₄ ((H2.objs.size, oC) :: (s₂.heap.objs.size, lst ys) :: news) := fun q hq => by
          rcases List.mem_cons.mp hq with rfl | hq
          · exact ⟨heC, hCL, hC₀⟩
          · have z := N' q hq
            rcases List.mem_cons.mp hq with rfl | hq
            · exact ⟨up _ _ (Ne.symm (below e hEl).2) (Ne.symm (below it hIl).2) hDC z.1, z.2⟩
            · exact ⟨up _ _ (off q hq).1 (off q hq).2 (offC q hq) z.1, z.2⟩
        refine wpAny_mono (turn i v t ys oC H2.objs.size s₂.heap.objs.size _ h₄ tk₄ _ hlt hv hoC (by simp [hab]) (by simp) F₄ N₄) (fun ok s₄ h₅ => ?_) fun _ _ q => q
        refine hide_goal fun kHide => ?_
        obtain ⟨rfl, tk₅, rfl⟩ := h₅
        refine kHide ?_
        clear kHide
        have nexti : items.size + 1 - (i + 1) < items.size + 1 - i := by omega
        cases hb : sat i with
        | true =>
          simp only [if_true]
          refine LCgL.ld_own (v := .int (i : Nat) t) N₄ (List.mem_cons_self ..) hoC (by simp [hab]) ?_ hkind (lookup_relabel_local hxa) hda
          refine append_at (hsz := by show ys.toArray.size ≤ sizeLine; rw [List.size_toArray]; exact Nat.le_trans (Nat.le_trans hyl hi) hsz) (N₄ (s₂.heap.objs.size, lst ys) (List.mem_cons_of_mem _ (List.mem_cons_self ..))).1 fun h₅ hs₅ hD₅ => ?_
          refine ⟨_, nexti, h₅, tk₅, i + 1, ys ++ [.int (i : Nat) t], _, rfl, hlt, rfl, by rw [List.length_append, List.length_singleton]; exact Nat.succ_le_succ hyl, W.frame (i + 1) _ h₅ hst₄ fun b hb' o q => hs₅.extBut b o (fun z => by
            have hb'' : b = e ∨ b = it ∨ b = l := by simpa using hb'
            rcases hb'' with rfl | rfl | rfl
            · exact (below _ hEl).2 z
            · exact (below _ hIl).2 z
            · exact (below _ hLl).2 z) q, F₄.change hs₅ hDL hD₀, (hoC.ns heC).sameBut hs₅ (Ne.symm hDC), fun p hp => ?_, ?_⟩
          · rcases List.mem_cons.mp hp with rfl | hp
            · exact ⟨hD₅.trans (congrArg some (lst_snoc ys _)), hDL, hD₀⟩
            · have z := N₄ p (List.mem_cons_of_mem _ (List.mem_cons_of_mem _ hp))
              exact ⟨hs₅.extBut _ _ (offD p hp) z.1, z.2⟩
          · rw [satI_succ, hb, if_pos rfl]
            exact ints_snoc hys _ _
        | false =>
          simp only [Bool.false_eq_true, if_false]
          refine ⟨_, nexti, h₄, tk₅, i + 1, ys, _, rfl, hlt, rfl, Nat.le_succ_of_le hyl, hst₄, F₄, hn₄, fun p hp => N₄ p (List.mem_cons_of_mem _ hp), ?_⟩
          rw [satI_succ, hb, if_neg (by decide), List.append_nil]
          exact hys
      · obtain rfl : i = items.size := Nat.le_antisymm hi (Nat.not_lt.mp hlt)
        refine W.done _ _ _ hst' fun h₂ tk₂ hk₂ => ?_
        have up : ∀ c o, c ≠ e → c ≠ it → h'.get? c = some o → h₂.get? c = some o := fun c o h1 h2 q => hk₂ c o (wr c h1 h2) q
        refine hRR _ _ h₂ tk₂ _ ys ⟨F'.ns.at' fun o q => up _ o hLe hLi q, fun c o q => up c o (fun z => by rw [z, he₀] at q; cases q) (fun z => by rw [z, hi₀] at q; cases q) (F'.keep c o q), F'.above⟩ (fun p hp => ?_) offD (hn'.at' fun o q => up _ o (Ne.symm (below e hEl).1) (Ne.symm (below it hIl).1) q) hC₀ hD₀ hCL hDL (Ne.symm hDC) offC hys
        have z := N' p hp
        rcases List.mem_cons.mp hp with rfl | hp
        · exact ⟨up _ _ (Ne.symm (below e hEl).2) (Ne.symm (below it hIl).2) z.1, z.2⟩
        · exact ⟨up _ _ (off p hp).1 (off p hp).2 z.1, z.2⟩
    · rcases List.mem_cons.mp hp with rfl | hp
      · exact ⟨hacc, hDL, hD₀⟩
      · exact ⟨old _ _ (N p hp).1, (N p hp).2⟩
  exact codeAny_compStart_list (loop _ rfl) (W.self 0 _ _ _ hst₁ (loop _ rfl))
noncomputable def SrcE (prog : Program) (w : World) (A : Around) (h₀ : Heap) (L : Addr) (m : Str → Option Value) (env : Env) (ct : Expr) (a b : Str) (scope : Scope) (cl : List (Str × Addr)) (y : Str) (Q : Flow → Shared → Prop) (xv : Value) (s₁ : Shared) : Prop :=
  ∃ (e it l : Addr) (items : Array Value) (news : Led) (sat : Nat → Bool), xv = .ref e ∧ A.handled = none ∧ e ≠ it ∧ l ≠ e ∧ l ≠ it ∧ items.size ≤ sizeLine ∧ ((∃ old, IsEnum s₁.heap e it 0 old) ∧ s₁.heap.IsListIter it l 0 ∧ s₁.heap.IsList l items) ∧
    Fr h₀ L s₁.heap m ∧ News h₀ L s₁.heap news ∧ L ≠ e ∧ L ≠ it ∧ h₀.get? e = none ∧ h₀.get? it = none ∧ (∀ p ∈ news, @Ne Nat p.1 e ∧ @Ne Nat p.1 it) ∧
    (∀ i v t ys oC C D m₂ h tk (E' : Value → Shared → Prop), i < items.size → items[i]? = some v → NsObj oC m₂ → m₂ a = some (.int (i : Nat) t) → m₂ b = some v → Fr h₀ L h m → News h₀ L h ((C, oC) :: (D, lst ys) :: news) →
      wpAny (model prog w) A (isTrue ct (compEnvC scope cl C env) (eval ct (compEnvC scope cl C env))) (fun ok s' => ok = sat i ∧ ∃ tk', s' = { s₁ with heap := h, toks := tk' }) E' { s₁ with heap := h, toks := tk }) ∧
    ∀ D h tk ys, IntsAre ys (satI sat items.size) → Fr h₀ L h (fun z => if z = y then some (.ref D) else m z) → News h₀ L h ((D, lst ys) :: news) → (∀ p ∈ news, @Ne Nat p.1 D) → Q .next { s₁ with heap := h, toks := tk }
theorem Assign_EP {iter ct : Expr} {a b y : Str} {pe pa pb tp py : Pos} {kk : Nat} {scope : Scope} {cl : List (Str × Addr)} {pos spos : Pos} {Q : Flow → Shared → Prop} (_F₀ : Fr h₀ L s.heap m) (hLe : env.locals = L)
    (hsw : swapsWith (.ListComp (.Name a pe) [⟨.Tuple [.Name a pa, .Name b pb] kk tp, iter, [ct], 0⟩] scope pos) (some (.Name y py)) spos.line env = pure true)
    (hclos : closureFor scope env = pure cl) (hcell : ∀ z ∈ scope.names, z.2 ≠ .cell) (hkind : scope.kind = .function)
    (hnames : ∀ z ∈ scope.names, z.2 = .local → scope.names.lookup z.1 = some .local) (hxa : scope.names.lookup a = some .local) (hxb : scope.names.lookup b = some .local) (hab : ¬ a = b) (hda : (a == ("__debug__" : Str)) = false)
    (hy : env.kindOf y = some .local) (hp : (env.scope.kind == .class || (env.scope.kind == .module && env.locals != env.globals)) = false)
    (h : wpAny (model prog w) A (eval iter env) (SrcE prog w A h₀ L m env ct a b scope cl y Q) E s)
    (hs : ∀ x, foldedSetIterable iter env x = pure x := by intro _; rfl) :
    wpAny (model prog w) A (exec (.Assign [.Name y py] (.ListComp (.Name a pe) [⟨.Tuple [.Name a pa, .Name b pb] kk tp, iter, [ct], 0⟩] scope pos) spos) env) Q E s := by
  subst hLe
  rw [exec_Assign_Name_used _ _ _ _ hsw]
  refine wpAny_bind (wpAny_standAt (wpAny_bind ?_))
  show wpAny _ A (do let _ ← comprehension (.ListComp (.Name a pe) [⟨.Tuple [.Name a pa, .Name b pb] kk tp, iter, [ct], 0⟩] scope pos) scope env _ (newList []) false (eval iter env) (some (assign (.Name y py) env))) _ _ s
  refine wpAny_bind (wpAny_mono (wpAny_comprehension_free (use := some (assign (.Name y py) env)) (Q := fun _ s' => Q .next s') rfl hs hclos hkind hnames
    (wpAny_mono h (fun xv s₁ h₁ => ?_) fun _ _ e => e)) (fun _ s' hq => wpAny_pure (wpAny_pure hq)) fun _ _ e => e)
  refine hide_goal fun kHide => ?_
  obtain ⟨e, it, l, items, news, sat, rfl, hh, hei, hle, hli, hsz, hst, F, N, hLe, hLi, he₀, hi₀, off, turn, fin⟩ := h₁
  refine kHide ?_
  clear kHide
  refine wpAny_pyIter_enum hst.1.choose_spec ?_
  refine block_EP sat hh hei hle hli hsz hst hcell hkind hxa hxb hab hda F N hLe hLi he₀ hi₀ off turn ?_
  intro D C h' tk m' ys F' N' offD hn hC₀ hD₀ hCL hDL hCD offC hys
  show wpAny _ A (assign (.Name y py) env (.ref D)) _ _ _
  refine wpAny_assign_Name (wpAny_storeName_local hy F'.ns (fun h₂ hn₂ hs₂ => ?_) hp)
  have hL₀ : h₀.get? env.locals = none := Heap.get?_none_of_le F'.above
  have F₂ : Fr h₀ env.locals h₂ (fun z => if z = y then some (.ref D) else m z) := ⟨hn₂, fun b o e => hs₂.extBut b o (fun q => by rw [q, hL₀] at e; cases e) (F'.keep b o e), F'.above⟩
  refine ⟨m', hn.sameBut hs₂ hCL, fun h'' hs'' => fin D h'' _ ys hys (F₂.change hs'' hCL hC₀) (fun p hp => ?_) offD⟩
  have z : h₂.get? p.1 = some p.2 := hs₂.extBut _ _ (N' p hp).2.1 (N' p hp).1
  refine ⟨hs''.extBut _ _ ?_ z, (N' p hp).2⟩
  rcases List.mem_cons.mp hp with rfl | hp
  · exact Ne.symm hCD
  · exact offC p hp
/-- `enumerate` of a list in the ledger -/
theorem enum_src {ct : Expr} {a b y : Str} {scope : Scope} {cl : List (Str × Addr)} {l : Addr} {vs : List Value} {n : Nat} {news : Led} {Q : Flow → Shared → Prop} (sat : Nat → Bool) (hh : A.handled = none) (F : Fr h₀ L s.heap m) (N : News h₀ L s.heap news) (hm : (l, listOf vs.toArray n) ∈ news) (hsz : vs.length ≤ 1000)
    (turn : ∀ g i v t ys oC C D m₂ h tk (E' : Value → Shared → Prop), vs[i]? = some v → NsObj oC m₂ → m₂ a = some (.int (i : Nat) t) → m₂ b = some v → Fr h₀ L h m → News h₀ L h ((C, oC) :: (D, lst ys) :: news) →
      wpAny (model prog w) A (isTrue ct (compEnvC scope cl C env) (eval ct (compEnvC scope cl C env))) (fun ok s' => ok = sat i ∧ ∃ tk', s' = { { s with heap := g } with heap := h, toks := tk' }) E' { { s with heap := g } with heap := h, toks := tk })
    (fin : ∀ D h tk ys, IntsAre ys (satI sat vs.length) → Fr h₀ L h (fun z => if z = y then some (.ref D) else m z) → News h₀ L h ((D, lst ys) :: news) → (∀ p ∈ news, @Ne Nat p.1 D) → Q .next { s with heap := h, toks := tk }) :
    wpAny (model prog w) A (call (.type "enumerate") [.ref l]) (SrcE prog w A h₀ L m env ct a b scope cl y Q) E s := by
  have hL : s.heap.IsList l vs.toArray := N.isList (d := none) (sl := #[]) hm
  have hlt : l < s.heap.objs.size := Heap.lt_size (N _ hm).1
  have hLs : L < s.heap.objs.size := F.ns.lt
  have hab : h₀.objs.size ≤ L := F.above
  refine call_enumerate_list hL fun h' hE hI hz hk => ?_
  refine ⟨s.heap.objs.size + 1, s.heap.objs.size, l, vs.toArray, news, sat, rfl, hh, Nat.succ_ne_self _, Nat.ne_of_lt (Nat.lt_succ_of_lt hlt), Nat.ne_of_lt hlt, by rw [List.size_toArray, sizeLine_eq]; omega, ⟨⟨_, hE⟩, hI, hL.at fun o x => hk l o x⟩, F.keeps hk, N.grown hk,
    Nat.ne_of_lt (Nat.lt_succ_of_lt hLs), Nat.ne_of_lt hLs, Heap.get?_none_of_le (Nat.le_trans hab (Nat.le_of_lt (Nat.lt_succ_of_lt hLs))), Heap.get?_none_of_le (Nat.le_trans hab (Nat.le_of_lt hLs)),
    fun p hp => ⟨Nat.ne_of_lt (Nat.lt_succ_of_lt (Heap.lt_size (N p hp).1)), Nat.ne_of_lt (Heap.lt_size (N p hp).1)⟩, ?_, ?_⟩
  · intro i v t ys oC C D m₂ h tk E' hi hv hC ha hb F' N'
    exact turn h' i v t ys oC C D m₂ h tk E' (by simpa using hv) hC ha hb F' N'
  · intro D h tk ys hys F' N' off
    rw [List.size_toArray] at hys
    exact fin D h tk ys hys F' N' off
end
end Mine
end

section
set_option maxRecDepth 100000
set_option maxHeartbeats 8000000
open PySem PySem.W PySem.Calls PyProof.Rows
namespace Mine
theorem fresh_W13 : True := by
  w_top off
  trivial
noncomputable def satC (st : List Step) (c : Clause) (i : Nat) : Bool := match st[i]? with
  | some x => decide (x.cl = c)
  | none => false
theorem satI_nil {sat : Nat → Bool} {n : Nat} (h : ∀ i, i < n → sat i = false) : satI sat n = [] := by
  induction n with
  | zero => rfl
  | succ n ih => rw [satI_succ, ih fun i hi => h i (by omega), h n (by omega)]; rfl
theorem satI_head {sat : Nat → Bool} {i : Nat} (h : ∀ j, j < i → sat j = false) (hi : sat i = true) : ∀ n, i < n → ∃ tl, satI sat n = (i : Int) :: tl
  | 0, q => absurd q (Nat.not_lt_zero _)
  | n + 1, q => by
    rw [satI_succ]
    by_cases e : i = n
    · subst e
      exact ⟨[], by rw [satI_nil h, hi]; rfl⟩
    · refine hide_goal fun kHide => ?_
      obtain ⟨tl, ht⟩ := satI_head h hi n (by omega)
      refine kHide ?_
      clear kHide
      exact ⟨_, by rw [ht]; rfl⟩
theorem satC_none {st : List Step} {c : Clause} (h : fidx st c = none) : satI (satC st c) st.length = [] := satI_nil fun i hi => by
  unfold satC
  rw [List.getElem?_eq_getElem hi]
  exact decide_eq_false (fidx_none.mp h _ (List.getElem_mem hi))
theorem satC_some {st : List Step} {c : Clause} {i : Nat} (h : fidx st c = some i) : ∃ tl, satI (satC st c) st.length = (i : Int) :: tl := by
  unfold fidx at h
  refine hide_goal fun kHide => ?_
  obtain ⟨hi, h1, h2⟩ := List.findIdx?_eq_some_iff_getElem.mp h
  refine kHide ?_
  clear kHide
  refine satI_head (fun j hj => ?_) ?_ _ hi
  · unfold satC
    rw [List.getElem?_eq_getElem (Nat.lt_trans hj hi)]
    have := h2 j hj
    simpa using this
  · unfold satC
    rw [List.getElem?_eq_getElem hi]
    simpa using h1
theorem StAll.get2 {nw : Led} : ∀ {ss : List Step} {vs : List Value} {i : Nat} {v : Value}, StAll nw ss vs → vs[i]? = some v → ∃ x, ss[i]? = some x ∧ StIn nw x v := fun h e => h.at e
theorem ints_head {vs : List Value} {x : Int} {tl : List Int} (h : IntsAre vs (x :: tl)) : ∃ t vs', vs = .int x t :: vs' := by
  cases h with
  | cons a b r => exact ⟨_, _, rfl⟩
theorem mem_1 {g h : Heap} {L : Addr} {a : Addr × Obj} {l : Led} (_ : News g L h (a :: l)) : a ∈ a :: l := List.Mem.head _
theorem mem_2 {g h : Heap} {L : Addr} {a b : Addr × Obj} {l : Led} (_ : News g L h (a :: b :: l)) : b ∈ a :: b :: l := List.Mem.tail _ (List.Mem.head _)
theorem mem_3 {g h : Heap} {L : Addr} {a b c : Addr × Obj} {l : Led} (_ : News g L h (a :: b :: c :: l)) : c ∈ a :: b :: c :: l := List.Mem.tail _ (List.Mem.tail _ (List.Mem.head _))
theorem sub_1 {g h : Heap} {L : Addr} {a : Addr × Obj} {l : Led} (_ : News g L h (a :: l)) : ∀ p ∈ l, p ∈ a :: l := fun _ hp => List.Mem.tail _ hp
theorem sub_2 {g h : Heap} {L : Addr} {a b : Addr × Obj} {l : Led} (_ : News g L h (a :: b :: l)) : ∀ p ∈ l, p ∈ a :: b :: l := fun _ hp => List.Mem.tail _ (List.Mem.tail _ hp)
theorem sub_3 {g h : Heap} {L : Addr} {a b c : Addr × Obj} {l : Led} (_ : News g L h (a :: b :: c :: l)) : ∀ p ∈ l, p ∈ a :: b :: c :: l := fun _ hp => List.Mem.tail _ (List.Mem.tail _ (List.Mem.tail _ hp))
theorem sub_4 {g h : Heap} {L : Addr} {a b c d : Addr × Obj} {l : Led} (_ : News g L h (a :: b :: c :: d :: l)) : ∀ p ∈ l, p ∈ a :: b :: c :: d :: l := fun _ hp => List.Mem.tail _ (List.Mem.tail _ (List.Mem.tail _ (List.Mem.tail _ hp)))
theorem sub_5 {g h : Heap} {L : Addr} {a b c d e : Addr × Obj} {l : Led} (_ : News g L h (a :: b :: c :: d :: e :: l)) : ∀ p ∈ l, p ∈ a :: b :: c :: d :: e :: l := fun _ hp => List.Mem.tail _ (List.Mem.tail _ (List.Mem.tail _ (List.Mem.tail _ (List.Mem.tail _ hp))))
theorem sub_6 {g h : Heap} {L : Addr} {a b c d e f : Addr × Obj} {l : Led} (_ : News g L h (a :: b :: c :: d :: e :: f :: l)) : ∀ p ∈ l, p ∈ a :: b :: c :: d :: e :: f :: l := fun _ hp => List.Mem.tail _ (List.Mem.tail _ (List.Mem.tail _ (List.Mem.tail _ (List.Mem.tail _ (List.Mem.tail _ hp)))))
theorem sub_7 {g h : Heap} {L : Addr} {a b c d e f i : Addr × Obj} {l : Led} (_ : News g L h (a :: b :: c :: d :: e :: f :: i :: l)) : ∀ p ∈ l, p ∈ a :: b :: c :: d :: e :: f :: i :: l := fun _ hp => List.Mem.tail _ (List.Mem.tail _ (List.Mem.tail _ (List.Mem.tail _ (List.Mem.tail _ (List.Mem.tail _ (List.Mem.tail _ hp))))))
theorem sub_8 {g h : Heap} {L : Addr} {a b c d e f i j : Addr × Obj} {l : Led} (_ : News g L h (a :: b :: c :: d :: e :: f :: i :: j :: l)) : ∀ p ∈ l, p ∈ a :: b :: c :: d :: e :: f :: i :: j :: l := fun _ hp => List.Mem.tail _ (List.Mem.tail _ (List.Mem.tail _ (List.Mem.tail _ (List.Mem.tail _ (List.Mem.tail _ (List.Mem.tail _ (List.Mem.tail _ hp)))))))
theorem sub_9 {g h : Heap} {L : Addr} {a b c d e f i j k : Addr × Obj} {l : Led} (_ : News g L h (a :: b :: c :: d :: e :: f :: i :: j :: k :: l)) : ∀ p ∈ l, p ∈ a :: b :: c :: d :: e :: f :: i :: j :: k :: l := fun _ hp => List.Mem.tail _ (List.Mem.tail _ (List.Mem.tail _ (List.Mem.tail _ (List.Mem.tail _ (List.Mem.tail _ (List.Mem.tail _ (List.Mem.tail _ (List.Mem.tail _ hp))))))))
theorem mem_4 {g h : Heap} {L : Addr} {a b c d : Addr × Obj} {l : Led} (_ : News g L h (a :: b :: c :: d :: l)) : d ∈ a :: b :: c :: d :: l := List.Mem.tail _ (List.Mem.tail _ (List.Mem.tail _ (List.Mem.head _)))
theorem mem_5 {g h : Heap} {L : Addr} {a b c d e : Addr × Obj} {l : Led} (_ : News g L h (a :: b :: c :: d :: e :: l)) : e ∈ a :: b :: c :: d :: e :: l := List.Mem.tail _ (List.Mem.tail _ (List.Mem.tail _ (List.Mem.tail _ (List.Mem.head _))))
theorem StAll.mono {nw nw' : Led} {ss : List Step} {vs : List Value} (h : StAll nw ss vs) (k : ∀ p ∈ nw, p ∈ nw') : StAll nw' ss vs := h.ups fun p hp _ => k p hp
theorem intl_ok (xs : List Int) : kqdOk 8 (.list (xs.map .int)) = true := by
  simp only [kqdOk, List.all_eq_true, List.mem_map]
  rintro _ ⟨l, hl, rfl⟩
  rfl
/-- the answer is the truth -/
noncomputable def Told (st : List Step) (c : Clause) (sp : Int) (av : Value) (st' : List Step) : Prop := (∃ i t, statedR st c sp = some (i, st') ∧ av = .int (i : Nat) t) ∨ (∃ t, statedR st c sp = none ∧ av = .str (Str.ofString "refused") t ∧ st' = st)
noncomputable abbrev nogS : Step := ⟨Str.ofString "nogood", [], [], .none⟩
noncomputable abbrev strS (c : Clause) (sp : Int) : Step := ⟨Str.ofString "strike", c, [], .int sp⟩
theorem told_some {st st' : List Step} {c : Clause} {sp : Int} {av : Value} {i : Nat} (hf : fidx st c = some i) (h : Told st c sp av st') : ∃ t, av = .int (i : Nat) t ∧ st' = st := by
  have e : statedR st c sp = some (i, st) := by unfold statedR; rw [hf]
  rcases h with ⟨j, t, h1, h2⟩ | ⟨t, h1, _⟩
  · rw [e] at h1; cases h1; exact ⟨t, h2, rfl⟩
  · rw [e] at h1; cases h1
theorem told_neg {st st' : List Step} {c : Clause} {sp : Int} {av : Value} (hf : fidx st c = none) (h1 : sp < 0) (h2 : c ≠ []) (h : Told st c sp av st') : ∃ t, av = .str (Str.ofString "refused") t ∧ st' = st := by
  have e : statedR st c sp = none := by unfold statedR; rw [hf]; simp only [if_pos h1, if_neg h2]
  rcases h with ⟨j, t, q, _⟩ | ⟨t, _, q2, q3⟩
  · rw [e] at q; cases q
  · exact ⟨t, q2, q3⟩
theorem told_nil {st st' : List Step} {c : Clause} {sp : Int} {av : Value} (hf : fidx st c = none) (h1 : sp < 0) (h2 : c = []) (h : Told st c sp av st') : ∃ t, av = .int (st.length : Nat) t ∧ st' = st ++ [nogS] := by
  have e : statedR st c sp = some (st.length, st ++ [nogS]) := by unfold statedR; rw [hf]; simp only [if_pos h1, if_pos h2]
  rcases h with ⟨j, t, q, q2⟩ | ⟨t, q, _⟩
  · rw [e] at q; cases q; exact ⟨t, q2, rfl⟩
  · rw [e] at q; cases q
theorem told_pos {st st' : List Step} {c : Clause} {sp : Int} {av : Value} (hf : fidx st c = none) (h1 : 0 ≤ sp) (h : Told st c sp av st') : ∃ t, av = .int (st.length : Nat) t ∧ st' = st ++ [strS c sp] := by
  have e : statedR st c sp = some (st.length, st ++ [strS c sp]) := by unfold statedR; rw [hf]; simp only [if_neg (Int.not_lt.mpr h1)]
  rcases h with ⟨j, t, q, q2⟩ | ⟨t, q, _⟩
  · rw [e] at q; cases q; exact ⟨t, q2, rfl⟩
  · rw [e] at q; cases q
section
variable {w : World} {A₀ A : Around} {base h₀ : Heap} {outer : List Env} {env : Env} {L : Addr} {m mg mb : Str → Option Value} {mean : ExcName → Option Value} {E : Value → Shared → Prop} {s : Shared} {nw : Led}
local macro_rules | `(tactic| k_mem) => `(tactic| assumption)
local macro_rules | `(tactic| walk_at "call builtin:len") => `(tactic| (k_here; refine Mark.go ?_))
local macro_rules | `(tactic| walk_at "call type:enumerate") => `(tactic| (k_here; refine Mark.go ?_))
local macro_rules | `(tactic| walk_at "compareOp NotEq ref ref") => `(tactic| (k_here; refine Mark.go ?_))
local macro_rules | `(tactic| walk_at "compareOp Eq ref ref") => `(tactic| (k_here; refine Mark.go ?_))
local macro_rules | `(tactic| walk_at "subscriptTail") => `(tactic| (k_here; refine Mark.go ?_))
local macro_rules | `(tactic| walk_at "exec Assign cons ListComp") => `(tactic| (k_here; refine Mark.go ?_))
theorem right_N {lg ld sl pd ca cp : Addr} {st st' : List Step} {c : Clause} {sp : Int} {spt : Tok} {av : Value} {sv : List Value} {n : Nat} {Q : Value → Shared → Prop}
    (G : Gr w A₀ base h₀ outer mean mg mb) (a0 : Ar 30 110 A env outer L) (F : Fr h₀ L s.heap m) (N : News h₀ L s.heap nw) (La : LogAt w lg ld sl pd st' nw) (hm : (cp, listOf sv.toArray n) ∈ nw) (hst : StAll nw st sv) (hlen : st.length ≤ 90) (hok : ∀ x ∈ st, StOk x) (hca : ClIn nw c ca) (hcok : ClOk c) (told : Told st c sp av st')
    (h : ∀ h' tk nw', Fr h₀ L h' m → News h₀ L h' nw' → (∀ p ∈ nw, p ∈ nw') → Q (.bool true) { s with heap := h', toks := tk }) :
    wpAny (model PR w) A (call (.ref 187) [.ref lg, .ref cp, .ref ca, .int sp spt, av]) Q E s := by
  refine hide_goal fun kHide => ?_
  obtain ⟨t1, t2, sv', n0, po, xs0, m1, m2, m3, _, _, _, hst', _⟩ := La.ex
  refine kHide ?_
  clear kHide
  have hlv := hst.length
  obtain ⟨hd, dp, fr, gs, u⟩ := A
  obtain ⟨⟨kd, nm, ig, ic, mo⟩, lc, gl, ce, ql, fu, co, frm, bt⟩ := env
  refine hide_goal fun kHide => ?_
  obtain ⟨rfl, rfl, hdp, hun, hlo, hki⟩ := a0
  refine kHide ?_
  clear kHide
  dsimp only at hlo hki
  subst hlo hki
  refine hide_goal fun kHide => ?_
  obtain ⟨B, X, T⟩ := G
  refine kHide ?_
  clear kHide
  have fill : (∀ P : Params, Ahead.heap_1_39 P = Ahead.heap_1_39 P) ∧ PySem.Challenge.rw_qd0004_01 = PySem.Challenge.rw_qd0004_01 := by
    k_fill
    exact ⟨fun _ => rfl, rfl⟩
  clear fill
  dsimp only at hdp hun
  refine wpAny_call ?_
  k_enter
  k_steps
  refine Mark.un (Assign_EP (by assumption) (by rfl) (by with_unfolding_all rfl) (by with_unfolding_all rfl) (by decide) (by rfl) (by decide) (by rfl) (by rfl) (by decide) (by rfl) (by rfl) (by rfl) ?_)
  k_steps
  rename News _ _ _ _ => kN
  rename Fr _ _ _ (bindL _ _ _) => kF
  refine Mark.un (enum_src (satC st c) rfl kF kN (List.Mem.tail _ hm) (by rw [hlv]; first | (with_reducible first | assumption | exact u_1 | exact u_2 | exact u_3 | exact i_0 | exact i_1 | exact i_2 | exact n_le | exact sub0 | exact c_0 | exact c_lo | exact c_le | exact c_lt | exact c_pos | exact n_s1 | exact n_eq) | decide | omega) ?_ ?_)
  · intro g i v t ys oC C D m₂ h2 tk2 E' hv hC hx1 hx2 F2 N2
    refine hide_goal fun kHide => ?_
    obtain ⟨x, hxs, hin⟩ := hst.get2 hv
    refine kHide ?_
    clear kHide
    have hsat : satC st c i = decide (x.cl = c) := by unfold satC; rw [hxs]
    have hcell := mem_3 N2
    have hCin := mem_1 N2
    refine hide_goal fun kHide => ?_
    obtain ⟨xa, xk, xt, xca, xpa, xnv, rfl, e1, e2, e3, e4⟩ := hin
    refine kHide ?_
    clear kHide
    have e1' := sub_3 N2 _ e1
    k_steps
    refine Mark.un (tupAt N2 e1' (by first | (with_reducible first | assumption | exact u_1 | exact u_2 | exact u_3 | exact i_0 | exact i_1 | exact i_2 | exact n_le | exact sub0 | exact c_0 | exact c_lo | exact c_le | exact c_lt | exact c_pos | exact n_s1 | exact n_eq) | decide | omega) (by simp) (by first | (with_reducible first | assumption | exact u_1 | exact u_2 | exact u_3 | exact i_0 | exact i_1 | exact i_2 | exact n_le | exact sub0 | exact c_0 | exact c_lo | exact c_le | exact c_lt | exact c_pos | exact n_s1 | exact n_eq) | decide | omega) fun v' hv' => ?_)
    cases hv'
    (try dsimp only)
    k_steps
    refine Mark.un (eq_dat N2 (e2.mono (sub_3 N2)).dat (hca.mono (sub_3 N2)).dat (clD_ok (hok x (List.mem_of_getElem? hxs)).c 6) (clD_ok hcok 6) (by k_room) (fun he => ?_) (fun he => ?_))
    · (try dsimp only)
      k_steps
      rw [hsat]
      exact (decide_eq_true (clD_inj he)).symm
    · (try dsimp only)
      k_steps
      rw [hsat]
      exact (decide_eq_false fun q => he (by rw [q])).symm
  · intro D h2 tk2 ys hys F2 N2 off
    rw [hlv] at hys
    k_steps
    rename News _ _ _ (_ :: _ :: _ :: nw) => kN2
    refine Mark.un (ne_dat kN2 (.list (mem_2 kN2) (ints_dat hys)) (.list (vs := []) (ds := []) (mem_1 kN2) .nil) (intl_ok _) rfl (by k_room) (fun he => ?_) (fun he => ?_))
    · have hf : fidx st c = none := by
        cases hf : fidx st c with
        | none => rfl
        | some i =>
          refine hide_goal fun kHide => ?_
          obtain ⟨tl, q⟩ := satC_some hf
          refine kHide ?_
          clear kHide
          rw [q] at he
          simp at he
      (try dsimp only)
      k_steps
      · rename News _ _ _ (_ :: _ :: _ :: _ :: nw) => kN3
        refine Mark.un (ne_dat kN3 (hca.mono (sub_4 kN3)).dat (.tuple (vs := []) (ds := []) (mem_1 kN3) .nil) (clD_ok hcok 6) rfl (by k_room) (fun he2 => ?_) (fun he2 => ?_))
        · refine hide_goal fun kHide => ?_
          obtain ⟨ta, rfl, rfl⟩ := told_nil hf (by first | (with_reducible first | assumption | exact u_1 | exact u_2 | exact u_3 | exact i_0 | exact i_1 | exact i_2 | exact n_le | exact sub0 | exact c_0 | exact c_lo | exact c_le | exact c_lt | exact c_pos | exact n_s1 | exact n_eq) | decide | omega) (clD_inj (b := []) he2) told
          refine kHide ?_
          clear kHide
          (try dsimp only)
          k_steps
          rename News _ _ _ (_ :: _ :: _ :: _ :: _ :: _ :: _ :: nw) => kN4
          refine Mark.un (len_led kN4 (sub_7 kN4 _ hm) (by rw [List.size_toArray, hlv, sizeLine_eq]; first | (with_reducible first | assumption | exact u_1 | exact u_2 | exact u_3 | exact i_0 | exact i_1 | exact i_2 | exact n_le | exact sub0 | exact c_0 | exact c_lo | exact c_le | exact c_lt | exact c_pos | exact n_s1 | exact n_eq) | decide | omega) fun t3 tk3 => ?_)
          rw [List.size_toArray, hlv]
          (try dsimp only)
          k_steps
          · rename News _ _ _ (_ :: _ :: _ :: _ :: _ :: _ :: _ :: _ :: nw) => kN5
            rename Fr _ _ _ _ => kF4
            refine add_lists (vs := sv) (ws := [_]) kF4 kN5 (kN5.isList (d := none) (sl := #[]) (sub_8 kN5 _ hm)) (kN5.isList (d := none) (sl := #[]) (mem_1 kN5)) ?_ (by rw [hlv, sizeLine_eq]; simp; first | (with_reducible first | assumption | exact u_1 | exact u_2 | exact u_3 | exact i_0 | exact i_1 | exact i_2 | exact n_le | exact sub0 | exact c_0 | exact c_lo | exact c_le | exact c_lt | exact c_pos | exact n_s1 | exact n_eq) | decide | omega)
            intro h5 F5 N5
            (try dsimp only)
            k_steps
            have hst5 := (hst.mono (sub_9 N5)).snoc (s := nogS) ⟨_, _, _, _, _, _, rfl, mem_3 N5, ⟨[], _, by first | exact mem_5 N5 | exact mem_4 N5, rfl, fun q hq => nomatch hq⟩, ⟨[], _, by first | exact mem_4 N5 | exact mem_5 N5, .nil⟩, rfl⟩
            have hok5 : ∀ x ∈ st ++ [nogS], StOk x := fun x hx => by
              rcases List.mem_append.mp hx with hx | hx
              · exact hok x hx
              · rw [List.mem_singleton.mp hx]; exact ⟨show PyData.strOk (Str.ofString "nogood") = true from by decide +kernel, fun l hl => nomatch hl⟩
            refine Mark.un (eq_dat N5 (.list (sub_9 N5 _ m3) (hst'.mono (sub_9 N5)).dat) (.list (mem_1 N5) hst5.dat) (steps_ok hok5) (steps_ok hok5) (by k_room) (fun he3 => ?_) (fun he3 => ?_))
            · (try dsimp only)
              k_steps
              rename News h₀ _ _ _ => kN9
              exact h _ _ _ (by assumption) kN9 (sub_9 kN9)
            · exact absurd rfl he3
          · exact absurd rfl (by assumption)
        · obtain ⟨ta, rfl, rfl⟩ := told_neg hf (by first | (with_reducible first | assumption | exact u_1 | exact u_2 | exact u_3 | exact i_0 | exact i_1 | exact i_2 | exact n_le | exact sub0 | exact c_0 | exact c_lo | exact c_le | exact c_lt | exact c_pos | exact n_s1 | exact n_eq) | decide | omega) (fun q => he2 (by rw [q]; rfl)) told
          (try dsimp only)
          k_steps
          refine Mark.un (eq_dat kN3 (.list (sub_4 kN3 _ m3) (hst'.mono (sub_4 kN3)).dat) (.list (sub_4 kN3 _ hm) (hst.mono (sub_4 kN3)).dat) (steps_ok hok) (steps_ok hok) (by k_room) (fun he3 => ?_) (fun he3 => ?_))
          · (try dsimp only)
            k_steps
            rename News h₀ _ _ _ => kN9
            exact h _ _ _ (by assumption) kN9 (sub_4 kN9)
          · exact absurd rfl he3
      · refine hide_goal fun kHide => ?_
        obtain ⟨ta, rfl, rfl⟩ := told_pos hf (by first | (with_reducible first | assumption | exact u_1 | exact u_2 | exact u_3 | exact i_0 | exact i_1 | exact i_2 | exact n_le | exact sub0 | exact c_0 | exact c_lo | exact c_le | exact c_lt | exact c_pos | exact n_s1 | exact n_eq) | decide | omega) told
        refine kHide ?_
        clear kHide
        rename News _ _ _ (_ :: _ :: _ :: _ :: _ :: nw) => kN3
        refine Mark.un (len_led kN3 (List.Mem.tail _ (List.Mem.tail _ (List.Mem.tail _ (List.Mem.tail _ (List.Mem.tail _ hm))))) (by rw [List.size_toArray, hlv, sizeLine_eq]; first | (with_reducible first | assumption | exact u_1 | exact u_2 | exact u_3 | exact i_0 | exact i_1 | exact i_2 | exact n_le | exact sub0 | exact c_0 | exact c_lo | exact c_le | exact c_lt | exact c_pos | exact n_s1 | exact n_eq) | decide | omega) fun t3 tk3 => ?_)
        rw [List.size_toArray, hlv]
        (try dsimp only)
        k_steps
        · rename News _ _ _ (_ :: _ :: _ :: _ :: _ :: _ :: nw) => kN4
          rename Fr _ _ _ _ => kF4
          refine add_lists (vs := sv) (ws := [_]) kF4 kN4 (kN4.isList (d := none) (sl := #[]) (sub_6 kN4 _ hm)) (kN4.isList (d := none) (sl := #[]) (mem_1 kN4)) ?_ (by rw [hlv, sizeLine_eq]; simp; first | (with_reducible first | assumption | exact u_1 | exact u_2 | exact u_3 | exact i_0 | exact i_1 | exact i_2 | exact n_le | exact sub0 | exact c_0 | exact c_lo | exact c_le | exact c_lt | exact c_pos | exact n_s1 | exact n_eq) | decide | omega)
          intro h5 F5 N5
          (try dsimp only)
          k_steps
          have hst5 := (hst.mono (sub_7 N5)).snoc (s := strS c sp) ⟨_, _, _, _, _, _, rfl, mem_3 N5, hca.mono (sub_7 N5), ⟨[], _, mem_4 N5, .nil⟩, ⟨_, rfl⟩⟩
          have hok5 : ∀ x ∈ st ++ [strS c sp], StOk x := fun x hx => by
            rcases List.mem_append.mp hx with hx | hx
            · exact hok x hx
            · rw [List.mem_singleton.mp hx]; exact ⟨show PyData.strOk (Str.ofString "strike") = true from by decide +kernel, hcok⟩
          refine Mark.un (eq_dat N5 (.list (sub_7 N5 _ m3) (hst'.mono (sub_7 N5)).dat) (.list (mem_1 N5) hst5.dat) (steps_ok hok5) (steps_ok hok5) (by k_room) (fun he3 => ?_) (fun he3 => ?_))
          · (try dsimp only)
            k_steps
            rename News h₀ _ _ _ => kN9
            exact h _ _ _ (by assumption) kN9 (sub_7 kN9)
          · exact absurd rfl he3
        · exact absurd rfl (by assumption)
    · obtain ⟨i, hf⟩ : ∃ i, fidx st c = some i := by
        cases hf : fidx st c with
        | some i => exact ⟨i, rfl⟩
        | none => rw [satC_none hf] at he; exact absurd rfl he
      refine hide_goal fun kHide => ?_
      obtain ⟨ta, rfl, rfl⟩ := told_some hf told
      obtain ⟨tl, htl⟩ := satC_some hf
      refine kHide ?_
      clear kHide
      rw [htl] at hys
      refine hide_goal fun kHide => ?_
      obtain ⟨t0, ys', rfl⟩ := ints_head hys
      refine kHide ?_
      clear kHide
      (try dsimp only)
      k_steps
      · refine Mark.un (eq_dat kN2 (.list (sub_3 kN2 _ m3) (hst'.mono (sub_3 kN2)).dat) (.list (sub_3 kN2 _ hm) (hst.mono (sub_3 kN2)).dat) (steps_ok hok) (steps_ok hok) (by k_room) (fun he3 => ?_) (fun he3 => ?_))
        · (try dsimp only)
          k_steps
          rename News h₀ _ _ _ => kN9
          exact h _ _ _ (by assumption) kN9 (sub_3 kN9)
        · exact absurd rfl he3
      · exact absurd rfl (by assumption)
end
end Mine
end

section
set_option maxRecDepth 100000
set_option maxHeartbeats 2000000
open PySem PySem.W PySem.Calls PySem.Spec PyProof.Rows PyProof.Rows.LCg
namespace Mine
theorem fresh_C5 : True := by
  w_top off
  trivial
section
variable {M : Model} {A : Around} {E : Value → Shared → Prop} {s : Shared}
theorem newFunctionEnv_one {scope : Scope} {globals : Addr} {cl : List (Str × Addr)} {qual : Str} {func : Option Addr} {code : Value} {around : Env} {builtins : Addr} {x : Str} {Q : Env → Shared → Prop}
    (h1 : ∀ n acc, cellsFrom n scope.names acc = (x, n) :: acc) (h2 : ∀ h, pushCells h scope.names = h.push { cls := .type "cell", data := .cell none })
    (hQ : Q (newEnv scope s.heap.objs.size globals ((x, s.heap.objs.size + 1) :: cl) qual func code (some around) builtins) { s with heap := (s.heap.push { cls := .type "dict", data := .dict #[] }).push { cls := .type "cell", data := .cell none } }) :
    wpAny M A (newFunctionEnv scope globals cl [] qual func code (some around) builtins) Q E s := by
  simp only [newFunctionEnv, Option.isSome_some, if_true]
  refine wpAny_bind (wpAny_alloc ?_)
  refine wpAny_bind (wpAny_layCells _ (fun name kind cells => by cases hkc : kind == NameKind.cell <;> simp [hkc]) _ _ _ _ ?_)
  rw [h1, h2, Heap.size_push]
  refine wpAny_bind ?_
  rw [List.forIn_nil]
  exact wpAny_pure (wpAny_pure hQ)
end
section
variable {prog : Program} {w : World} {A : Around} {E : Value → Shared → Prop} {s : Shared} {h₀ : Heap} {L : Addr} {m : Str → Option Value} {env : Env}
/-- a comprehension over a list whose variable is a cell -/
theorem block_C1 {elt iter : Expr} {x : Str} {px : Pos} {scope : Scope} {cl : List (Str × Addr)} {pos : Pos} {s₂ : Shared} {I : Addr} {fp : List Addr} {n : Nat} {P : Nat → Value → Prop} {St : Nat → Heap → Prop} {S : Led → Prop} {news : Led}
    {RR : Value → Addr → Result → Shared → Prop} (J : Nat → List Value → Led → Prop)
    (W : Walks prog w A I fp [I] n P St) (hsz : n ≤ sizeLine) (hIo : ∀ i h, St i h → ∃ o, h.get? I = some o)
    (hSt : ∀ i h h' o nw, St i h → h.get? I = some o → h'.get? I = some o → (∀ b o, h₀.get? b = some o → h'.get? b = some o) → News h₀ L h' nw → S nw → St i h')
    (c1 : ∀ n acc, cellsFrom n scope.names acc = (x, n) :: acc) (c2 : ∀ h, pushCells h scope.names = h.push { cls := .type "cell", data := .cell none }) (hkind : scope.kind = .function) (hxk : ∀ cs C, (compEnvC scope cs C env).kindOf x = some .cell) (hst : St 0 s₂.heap) (hfp : ∀ b ∈ fp, b < s₂.heap.objs.size)
    (F : Fr h₀ L s₂.heap m) (N : News h₀ L s₂.heap news) (hIL : L ≠ I) (hI₀ : h₀.get? I = none) (off : ∀ p ∈ news, @Ne Nat p.1 I) (hS : S news) (hJ : J 0 [] news)
    (turn : ∀ i ys news v I oI C oC D K oK h tk (E' : Value → Shared → Prop), i < n → J i ys news → S news → P i v → oK.data = .cell (some v) → Fr h₀ L h m → News h₀ L h ((I, oI) :: (C, oC) :: (D, lst ys) :: (K, oK) :: news) → (∀ p ∈ news, @Ne Nat p.1 I ∧ @Ne Nat p.1 C ∧ @Ne Nat p.1 D ∧ @Ne Nat p.1 K) → (@Ne Nat I C ∧ @Ne Nat I D ∧ @Ne Nat C D ∧ @Ne Nat K I ∧ @Ne Nat K C ∧ @Ne Nat K D) →
      wpAny (model prog w) A (eval elt (compEnvC scope ((x, K) :: cl) C env)) (fun y s' => ∃ h' tk' new, s' = { s₂ with heap := h', toks := tk' } ∧ Fr h₀ L h' m ∧ News h₀ L h' ((I, oI) :: (C, oC) :: (D, lst ys) :: (K, oK) :: new) ∧ (∀ p ∈ new, @Ne Nat p.1 I ∧ @Ne Nat p.1 C ∧ @Ne Nat p.1 D ∧ @Ne Nat p.1 K) ∧ S new ∧ J (i + 1) (ys ++ [y]) new) E' { s₂ with heap := h, toks := tk })
    (hRR : ∀ D C h tk m' ys news', Fr h₀ L h m → News h₀ L h ((D, lst ys) :: news') → (∀ p ∈ news', @Ne Nat p.1 D) → h.Ns C m' → h₀.get? C = none → h₀.get? D = none → C ≠ L → D ≠ L → C ≠ D → (∀ p ∈ news', p.1 ≠ C) → J n ys news' → RR (.ref D) C (.ok .next) { s₂ with heap := h, toks := tk }) :
    wpAny (model prog w) A (newList []) (fun acc s₃ => wpAny (model prog w) A (newFunctionEnv scope env.globals cl [] env.qual none .none (some env)) (fun cenv s₄ =>
      codeAny (model prog w) A (.compStart (.ListComp elt [⟨.Name x px, iter, [], 0⟩] scope pos) 0 (.ref I) acc { cenv with scope := relabel scope env }) (RR acc cenv.locals) s₄) E s₃) E s₂ := by
  refine wpAny_newObj_type (newFunctionEnv_one c1 c2 ?_)
  dsimp only
  generalize hH2 : s₂.heap.push { cls := .type "list", dict := none, data := .seq ([] : List Value).toArray } = H2
  have hC : H2.objs.size = s₂.heap.objs.size + 1 := by rw [← hH2, Heap.size_push]
  generalize hH3 : H2.push { cls := .type "dict", data := .dict #[] } = H3
  have hC3 : H3.objs.size = H2.objs.size + 1 := by rw [← hH3, Heap.size_push]
  generalize hH4 : H3.push { cls := .type "cell", data := .cell none } = h₁
  have up3 : ∀ b o, H2.get? b = some o → h₁.get? b = some o := fun b o e => hH4 ▸ Heap.get?_push_of_some _ (hH3 ▸ Heap.get?_push_of_some _ e)
  have hDC : s₂.heap.objs.size ≠ H2.objs.size := by rw [hC]; exact Nat.ne_of_lt (Nat.lt_succ_self _)
  have hDK : s₂.heap.objs.size ≠ H2.objs.size + 1 := by rw [hC]; exact Nat.ne_of_lt (Nat.lt_succ_of_lt (Nat.lt_succ_self _))
  have hCK : H2.objs.size ≠ H2.objs.size + 1 := Nat.ne_of_lt (Nat.lt_succ_self _)
  have below : ∀ b, b < s₂.heap.objs.size → b ≠ H2.objs.size ∧ b ≠ s₂.heap.objs.size ∧ b ≠ H2.objs.size + 1 := fun b hb => ⟨by rw [hC]; exact Nat.ne_of_lt (Nat.lt_succ_of_lt hb), Nat.ne_of_lt hb, by rw [hC]; exact Nat.ne_of_lt (Nat.lt_succ_of_lt (Nat.lt_succ_of_lt hb))⟩
  have hDf : s₂.heap.objs.size ∉ fp := fun hm => Nat.lt_irrefl _ (hfp _ hm)
  have hKf : H2.objs.size + 1 ∉ fp := fun hm => (below _ (hfp _ hm)).2.2 rfl
  have hIf : I ∈ fp := W.sub I (List.mem_singleton.mpr rfl)
  have hIlt : I < s₂.heap.objs.size := hfp I hIf
  have old : ∀ b o, s₂.heap.get? b = some o → h₁.get? b = some o := fun b o e => up3 b o (hH2 ▸ Heap.get?_push_of_some _ e)
  have hacc : h₁.get? s₂.heap.objs.size = some (lst []) := up3 _ _ (hH2 ▸ Heap.get?_push_size _ rfl)
  have hcell₁ : h₁.get? (H2.objs.size + 1) = some { cls := .type "cell", data := .cell none } := by rw [← hC3, ← hH4]; exact Heap.get?_push_size _ rfl
  have hns₁ : h₁.Ns H2.objs.size (fun _ => none) := by
    have := Heap.Ns.new H2 (.type "dict")
    rw [hH3] at this
    exact this.keeps fun b o e => hH4 ▸ Heap.get?_push_of_some _ e
  have hst₁ : St 0 h₁ := W.frame _ _ _ hst fun b _ o e => old b o e
  have fresh : ∀ a, s₂.heap.objs.size ≤ a → s₂.heap.get? a = none := fun a ha => by
    cases e : s₂.heap.get? a with
    | none => rfl
    | some o' => exact absurd (Heap.lt_size e) (Nat.not_lt.mpr ha)
  have fresh₀ : ∀ a, s₂.heap.objs.size ≤ a → h₀.get? a = none := fun a ha => by
    cases e : h₀.get? a with
    | none => rfl
    | some o' => have := F.keep a o' e; rw [fresh a ha] at this; cases this
  have hD₀ : h₀.get? s₂.heap.objs.size = none := fresh₀ _ (Nat.le_refl _)
  have hC₀ : h₀.get? H2.objs.size = none := fresh₀ _ (by rw [hC]; exact Nat.le_succ _)
  have hK₀ : h₀.get? (H2.objs.size + 1) = none := fresh₀ _ (by rw [hC]; exact Nat.le_succ_of_le (Nat.le_succ _))
  have hLlt : L < s₂.heap.objs.size := F.ns.lt
  have hDL : s₂.heap.objs.size ≠ L := Ne.symm (below L hLlt).2.1
  have hCL : H2.objs.size ≠ L := Ne.symm (below L hLlt).1
  have hKL : H2.objs.size + 1 ≠ L := Ne.symm (below L hLlt).2.2
  have hCI : I ≠ H2.objs.size := (below I hIlt).1
  have hDI : I ≠ s₂.heap.objs.size := (below I hIlt).2.1
  have hKI : H2.objs.size + 1 ≠ I := Ne.symm (below I hIlt).2.2
  have off₀ : ∀ p ∈ news, @Ne Nat p.1 I ∧ @Ne Nat p.1 H2.objs.size ∧ @Ne Nat p.1 s₂.heap.objs.size ∧ @Ne Nat p.1 (H2.objs.size + 1) := fun p hp => have b := below _ (Heap.lt_size (N p hp).1); ⟨off p hp, b.1, b.2.1, b.2.2⟩
  have loop : ∀ s₃ : Shared, s₃ = { s₂ with heap := h₁ } →
      codeAny (model prog w) A (.compLoop (.ListComp elt [⟨.Name x px, iter, [], 0⟩] scope pos) 0 (.ref I) (.ref s₂.heap.objs.size) (compEnvC scope ((x, H2.objs.size + 1) :: cl) H2.objs.size env))
        (RR (.ref s₂.heap.objs.size) H2.objs.size) s₃ := by
    rintro s₃ rfl
    refine codeAny_compLoop_tests
      (fun k s' => ∃ h' tk i ys m' news' oK v₀, s' = { s₂ with heap := h', toks := tk } ∧ i ≤ n ∧ k = n + 1 - i ∧ ys.length ≤ i ∧ St i h' ∧ Fr h₀ L h' m ∧ h'.Ns H2.objs.size m' ∧ oK.data = .cell v₀ ∧ News h₀ L h' ((s₂.heap.objs.size, lst ys) :: (H2.objs.size + 1, oK) :: news') ∧
        (∀ p ∈ news', @Ne Nat p.1 I ∧ @Ne Nat p.1 H2.objs.size ∧ @Ne Nat p.1 s₂.heap.objs.size ∧ @Ne Nat p.1 (H2.objs.size + 1)) ∧ S news' ∧ J i ys news') ?_ (n + 1)
      ⟨h₁, _, 0, [], _, news, { cls := .type "cell", data := .cell none }, none, rfl, Nat.zero_le _, rfl, Nat.le_refl _, hst₁, F.keeps old, hns₁, rfl, fun p hp => ?_, off₀, hS, hJ⟩
    · rintro k s' ⟨h', tk, i, ys, m', news', oK, v₀, rfl, hi, rfl, hyl, hst', F', hn', hoK, N', off', hS', hJ'⟩
      by_cases hlt : i < n
      · refine W.item i _ _ _ hlt hst' fun v h₂ tk₂ hPv hst₂ hk₂ => ?_
        have N₂ : News h₀ L h₂ ((s₂.heap.objs.size, lst ys) :: (H2.objs.size + 1, oK) :: news') := news_but N' hk₂ fun p hp => by
          rcases List.mem_cons.mp hp with rfl | hp
          · exact Ne.symm hDI
          rcases List.mem_cons.mp hp with rfl | hp
          · exact hKI
          · exact (off' p hp).1
        refine wpAny_assign_Name (wpAny_storeName_cell hkind (hxk _ _) (show ((x, H2.objs.size + 1) :: cl).lookup x = some (H2.objs.size + 1) by simp) ⟨oK, (N₂ (H2.objs.size + 1, oK) (List.Mem.tail _ (List.Mem.head _))).1, hoK⟩ (fun h₃ hc₃ hs₃ => ?_))
        refine hide_goal fun kHide => ?_
        obtain ⟨oK', hK', hdK'⟩ := hc₃
        refine kHide ?_
        clear kHide
        refine wpAny_tests_nil ?_
        simp only [if_true]
        have hst₃ : St (i + 1) h₃ := W.frame _ _ _ hst₂ fun b hb o e => hs₃.extBut b o (fun q => hKf (by have q' : b = H2.objs.size + 1 := q; rw [← q']; exact hb)) e
        refine hide_goal fun kHide => ?_
        obtain ⟨oI, heI⟩ := hIo _ _ hst₃
        refine kHide ?_
        clear kHide
        have hn₃ : h₃.Ns H2.objs.size m' := (hn'.at' fun o e => hk₂ _ o (by simpa using Ne.symm hCI) e).sameBut hs₃ hCK
        refine hide_goal fun kHide => ?_
        obtain ⟨oC, heC, hoC⟩ := ns_obj hn₃
        refine kHide ?_
        clear kHide
        have F₃ : Fr h₀ L h₃ m := (fr_but F' hk₂ hIL hI₀).change hs₃ hKL hK₀
        have N₃ : News h₀ L h₃ ((I, oI) :: (H2.objs.size, oC) :: (s₂.heap.objs.size, lst ys) :: (H2.objs.size + 1, oK') :: news') := fun p hp => by
          rcases List.mem_cons.mp hp with rfl | hp
          · exact ⟨heI, Ne.symm hIL, hI₀⟩
          rcases List.mem_cons.mp hp with rfl | hp
          · exact ⟨heC, hCL, hC₀⟩
          rcases List.mem_cons.mp hp with rfl | hp
          · exact ⟨hs₃.extBut _ _ hDK (N₂ _ (List.Mem.head _)).1, hDL, hD₀⟩
          rcases List.mem_cons.mp hp with rfl | hp
          · exact ⟨hK', hKL, hK₀⟩
          · have z := N₂ p (List.Mem.tail _ (List.Mem.tail _ hp))
            exact ⟨hs₃.extBut _ _ (off' p hp).2.2.2 z.1, z.2⟩
        refine wpAny_mono (turn i ys news' v I oI H2.objs.size oC s₂.heap.objs.size (H2.objs.size + 1) oK' h₃ _ _ hlt hJ' hS' hPv hdK' F₃ N₃ off' ⟨hCI, hDI, Ne.symm hDC, hKI, Ne.symm hCK, Ne.symm hDK⟩) (fun y s₄ h₄ => ?_) fun _ _ e => e
        refine hide_goal fun kHide => ?_
        obtain ⟨h₄, tk₄, news₄, rfl, F₄, N₄, off₄, hS₄, hJ₄⟩ := h₄
        refine kHide ?_
        clear kHide
        have zI := (N₄ (I, oI) List.mem_cons_self).1
        have zC := (N₄ (H2.objs.size, oC) (List.mem_cons_of_mem _ List.mem_cons_self)).1
        have zD := (N₄ (s₂.heap.objs.size, lst ys) (List.mem_cons_of_mem _ (List.mem_cons_of_mem _ List.mem_cons_self))).1
        have zK := (N₄ (H2.objs.size + 1, oK') (List.mem_cons_of_mem _ (List.mem_cons_of_mem _ (List.mem_cons_of_mem _ List.mem_cons_self)))).1
        have N₄' : News h₀ L h₄ news₄ := fun p hp => N₄ p (List.mem_cons_of_mem _ (List.mem_cons_of_mem _ (List.mem_cons_of_mem _ (List.mem_cons_of_mem _ hp))))
        have hst₄ : St (i + 1) h₄ := hSt _ _ _ _ _ hst₃ heI zI F₄.keep N₄' hS₄
        refine append_at (hsz := by show ys.toArray.size ≤ sizeLine; rw [List.size_toArray]; exact Nat.le_trans (Nat.le_trans hyl hi) hsz) zD fun h₅ hs₅ hD₅ => ?_
        refine ⟨n + 1 - (i + 1), by omega, h₅, tk₄, i + 1, ys ++ [y], _, news₄, oK', some v, rfl, hlt, rfl, by rw [List.length_append, List.length_singleton]; exact Nat.succ_le_succ hyl, W.frame _ _ _ hst₄ fun b hb o e => hs₅.extBut b o (fun q => hDf (q ▸ hb)) e, F₄.change hs₅ hDL hD₀,
          (hoC.ns zC).sameBut hs₅ (Ne.symm hDC), hdK', fun p hp => ?_, off₄, hS₄, hJ₄⟩
        rcases List.mem_cons.mp hp with rfl | hp
        · exact ⟨hD₅.trans (congrArg some (lst_snoc ys y)), hDL, hD₀⟩
        rcases List.mem_cons.mp hp with rfl | hp
        · exact ⟨hs₅.extBut _ _ (Ne.symm hDK) zK, hKL, hK₀⟩
        · exact ⟨hs₅.extBut _ _ (off₄ p hp).2.2.1 (N₄' p hp).1, (N₄' p hp).2⟩
      · obtain rfl : i = n := Nat.le_antisymm hi (Nat.not_lt.mp hlt)
        refine W.done _ _ _ hst' fun h₂ tk₂ hk₂ => ?_
        refine hRR _ _ h₂ tk₂ _ ys news' (fr_but F' hk₂ hIL hI₀) (fun p hp => ?_) (fun p hp => (off' p hp).2.2.1) (hn'.at' fun o e => hk₂ _ o (by simpa using Ne.symm hCI) e) hC₀ hD₀ hCL hDL (Ne.symm hDC) (fun p hp => (off' p hp).2.1) hJ'
        rcases List.mem_cons.mp hp with rfl | hp
        · exact (news_but (fun q hq => N' q (by rw [List.mem_singleton.mp hq]; exact List.Mem.head _)) hk₂ (news := [(s₂.heap.objs.size, lst ys)]) (fun q hq => by rw [List.mem_singleton.mp hq]; exact Ne.symm hDI)) _ (List.Mem.head _)
        · exact (news_but (fun q hq => N' q (List.Mem.tail _ (List.Mem.tail _ hq))) hk₂ (news := news') (fun q hq => (off' q hq).1)) _ hp
    · rcases List.mem_cons.mp hp with rfl | hp
      · exact ⟨hacc, hDL, hD₀⟩
      rcases List.mem_cons.mp hp with rfl | hp
      · exact ⟨hcell₁, hKL, hK₀⟩
      · exact ⟨old _ _ (N p hp).1, (N p hp).2⟩
  have key := codeAny_compStart_list (loop _ rfl) (W.self 0 _ _ _ hst₁ (loop _ rfl))
  exact key
end
end Mine
end

section
set_option maxRecDepth 100000
set_option maxHeartbeats 2000000
open PySem PySem.W PySem.Calls PySem.Spec PyProof.Rows PyProof.Rows.LCg PyProof.Rows.LCt
namespace Mine
theorem fresh_C6 : True := by
  w_top off
  trivial
/-- what holds data is kept -/
noncomputable def Seqs (a b : Led) : Prop := ∀ p ∈ a, (∃ i n, p.2.data = .seq i n) → p ∈ b
theorem Seqs.of_sub {a b : Led} (h : ∀ p ∈ a, p ∈ b) : Seqs a b := fun p hp _ => h p hp
theorem Seqs.trans {a b c : Led} (h : Seqs a b) (k : Seqs b c) : Seqs a c := fun p hp q => k p (h p hp q) q
theorem dats_both {a b : Led} (k : Seqs a b) : (∀ {v : Value} {d : Dat}, DatIn a v d → DatIn b v d) ∧ ∀ {vs : List Value} {ds : List Dat}, DatAll a vs ds → DatAll b vs ds := by
  refine ⟨fun h => ?_, fun h => ?_⟩
  · exact DatIn.rec (motive_1 := fun v d _ => DatIn b v d) (motive_2 := fun vs ds _ => DatAll b vs ds) .none .bool .int .str .bytes (fun h _ r => .tuple (k _ h ⟨_, _, rfl⟩) r) (fun h _ r => .list (k _ h ⟨_, _, rfl⟩) r) .nil (fun _ _ x r => .cons x r) h
  · exact DatAll.rec (motive_1 := fun v d _ => DatIn b v d) (motive_2 := fun vs ds _ => DatAll b vs ds) .none .bool .int .str .bytes (fun h _ r => .tuple (k _ h ⟨_, _, rfl⟩) r) (fun h _ r => .list (k _ h ⟨_, _, rfl⟩) r) .nil (fun _ _ x r => .cons x r) h
theorem dat_seqs {a b : Led} (k : Seqs a b) {v : Value} {d : Dat} (h : DatIn a v d) : DatIn b v d := (dats_both k).1 h
theorem dats_seqs {a b : Led} (k : Seqs a b) {vs : List Value} {ds : List Dat} (h : DatAll a vs ds) : DatAll b vs ds := (dats_both k).2 h
theorem dats_append {nw : Led} {vs ws : List Value} {ds es : List Dat} (h : DatAll nw vs ds) (g : DatAll nw ws es) : DatAll nw (vs ++ ws) (ds ++ es) := by
  induction vs generalizing ds with
  | nil => cases h; exact g
  | cons v vs ih =>
    cases h with
    | cons a b =>
      have q := ih b
      exact .cons a q
theorem dat_get {nw : Led} {vs : List Value} {ds : List Dat} {i : Nat} {v : Value} (h : DatAll nw vs ds) (e : vs[i]? = some v) : ∃ d, ds[i]? = some d ∧ DatIn nw v d := by
  induction vs generalizing ds i with
  | nil => cases e
  | cons u vs ih =>
    cases h with
    | cons a b =>
      cases i with
      | zero => cases e; exact ⟨_, rfl, a⟩
      | succ i =>
        have q := ih b e
        exact q
theorem seqs_cell {g h : Heap} {L K : Addr} {o : Obj} {v : Option Value} {nw : Led} (N : News g L h nw) (hm : (K, o) ∈ nw) (hd : o.data = .cell v) : Seqs nw (nw.filter fun p => decide (@Ne Nat p.1 K)) := fun p hp ⟨i, n, q⟩ => List.mem_filter.mpr ⟨hp, decide_eq_true fun e => by
  have e1 := (N p hp).1
  have e2 := (N (K, o) hm).1
  have e3 : h.get? p.1 = h.get? K := congrArg h.get? e
  have e4 : o = p.2 := Option.some.inj ((e2.symm.trans e3.symm).trans e1)
  rw [← e4, hd] at q
  cases q⟩
section
variable {prog : Program} {w : World} {A : Around} {E : Value → Shared → Prop} {s : Shared} {h₀ : Heap} {L : Addr} {m : Str → Option Value} {env : Env}
noncomputable abbrev Off4 (I C D K : Addr) (nw : Led) : Prop := ∀ p ∈ nw, @Ne Nat p.1 I ∧ @Ne Nat p.1 C ∧ @Ne Nat p.1 D ∧ @Ne Nat p.1 K
noncomputable def CEnd (h₀ : Heap) (L : Addr) (m : Str → Option Value) (s : Shared) (I : Addr) (oI : Obj) (C : Addr) (oC : Obj) (D : Addr) (oD : Obj) (K : Addr) (oK : Obj) (S : Led → Prop) (J : Value → Led → Prop) (y : Value) (s' : Shared) : Prop :=
  ∃ h' tk' new, s' = { s with heap := h', toks := tk' } ∧ Fr h₀ L h' m ∧ News h₀ L h' ((I, oI) :: (C, oC) :: (D, oD) :: (K, oK) :: new) ∧ Off4 I C D K new ∧ S new ∧ J y new
noncomputable def TurnC (prog : Program) (w : World) (A : Around) (h₀ : Heap) (L : Addr) (m : Str → Option Value) (env : Env) (elt : Expr) (x : Str) (scope : Scope) (cl : List (Str × Addr)) (ax : Addr) (vs : List Value) (k : Nat) (J : Nat → List Value → Led → Prop) (s : Shared) : Prop :=
  ∀ i ys news v I oI C oC D K oK h tk (E' : Value → Shared → Prop), i < vs.length → J i ys news → (ax, listOf vs.toArray k) ∈ news → vs[i]? = some v → oK.data = .cell (some v) → Fr h₀ L h m → News h₀ L h ((I, oI) :: (C, oC) :: (D, lst ys) :: (K, oK) :: news) → Off4 I C D K news → (@Ne Nat I C ∧ @Ne Nat I D ∧ @Ne Nat C D ∧ @Ne Nat K I ∧ @Ne Nat K C ∧ @Ne Nat K D) →
      wpAny (model prog w) A (eval elt (compEnvC scope ((x, K) :: cl) C env)) (CEnd h₀ L m s I oI C oC D (lst ys) K oK (fun new => (ax, listOf vs.toArray k) ∈ new) (fun y new => J (i + 1) (ys ++ [y]) new)) E' { s with heap := h, toks := tk }
noncomputable def SrcC (prog : Program) (w : World) (A : Around) (h₀ : Heap) (L : Addr) (m : Str → Option Value) (env : Env) (elt : Expr) (x : Str) (scope : Scope) (cl : List (Str × Addr)) (y : Str) (Q : Flow → Shared → Prop) (xv : Value) (s₁ : Shared) : Prop :=
  ∃ ax vs k news J, xv = .ref ax ∧ A.handled = none ∧ Fr h₀ L s₁.heap m ∧ News h₀ L s₁.heap news ∧ (ax, listOf vs.toArray k) ∈ news ∧ vs.length ≤ 1000 ∧ J 0 [] news ∧ (∀ g, TurnC prog w A h₀ L m env elt x scope cl ax vs k J { s₁ with heap := g }) ∧
    ∀ D h tk ys news', J vs.length ys news' → Fr h₀ L h (fun z => if z = y then some (.ref D) else m z) → News h₀ L h ((D, lst ys) :: news') → (∀ p ∈ news', @Ne Nat p.1 D) → Q .next { s₁ with heap := h, toks := tk }
theorem Assign_C1 {elt iter : Expr} {x y : Str} {px py : Pos} {scope : Scope} {cl : List (Str × Addr)} {pos spos : Pos} {Q : Flow → Shared → Prop} (_F₀ : Fr h₀ L s.heap m) (hLe : env.locals = L)
    (hsw : swapsWith (.ListComp elt [⟨.Name x px, iter, [], 0⟩] scope pos) (some (.Name y py)) spos.line env = pure true)
    (hclos : closureFor scope env = pure cl) (c1 : ∀ n acc, cellsFrom n scope.names acc = (x, n) :: acc) (c2 : ∀ h, pushCells h scope.names = h.push { cls := .type "cell", data := .cell none }) (hkind : scope.kind = .function)
    (hnames : ∀ z ∈ scope.names, z.2 = .local → scope.names.lookup z.1 = some .local) (hxk : ∀ cs C, (compEnvC scope cs C env).kindOf x = some .cell)
    (hy : env.kindOf y = some .local) (hp : (env.scope.kind == .class || (env.scope.kind == .module && env.locals != env.globals)) = false)
    (h : wpAny (model prog w) A (eval iter env) (SrcC prog w A h₀ L m env elt x scope cl y Q) E s)
    (hs : ∀ x, foldedSetIterable iter env x = pure x := by intro _; rfl) :
    wpAny (model prog w) A (exec (.Assign [.Name y py] (.ListComp elt [⟨.Name x px, iter, [], 0⟩] scope pos) spos) env) Q E s := by
  subst hLe
  rw [exec_Assign_Name_used _ _ _ _ hsw]
  refine wpAny_bind (wpAny_standAt (wpAny_bind ?_))
  show wpAny _ A (do let _ ← comprehension (.ListComp elt [⟨.Name x px, iter, [], 0⟩] scope pos) scope env _ (newList []) false (eval iter env) (some (assign (.Name y py) env))) _ _ s
  refine wpAny_bind (wpAny_mono (wpAny_comprehension_free (use := some (assign (.Name y py) env)) (Q := fun _ s' => Q .next s') rfl hs hclos hkind hnames
    (wpAny_mono h (fun xv s₁ h₁ => ?_) fun _ _ e => e)) (fun _ s' hq => wpAny_pure (wpAny_pure hq)) fun _ _ e => e)
  refine hide_goal fun kHide => ?_
  obtain ⟨ax, vs, k, news, J, rfl, hh, F, N, S, hsz, hJ, turn, fin⟩ := h₁
  refine kHide ?_
  clear kHide
  have hl : s₁.heap.IsList ax vs.toArray := N.isList (d := none) (sl := #[]) S
  have hlt : ax < s₁.heap.objs.size := Heap.lt_size (N _ S).1
  refine wpAny_pyIter_list hl ?_
  have up : ∀ b o, s₁.heap.get? b = some o → (s₁.heap.push { cls := .type "list_iterator", data := .fields #[.ref ax, .int 0 0] }).get? b = some o := fun b o e => Heap.get?_push_of_some _ e
  refine block_C1 (n := vs.toArray.size) (S := fun nw => (ax, listOf vs.toArray k) ∈ nw) J (Walks.list hh s₁.heap.objs.size ax (Nat.ne_of_lt hlt) vs.toArray) (by rw [List.size_toArray, sizeLine_eq]; omega) (fun i h st => by obtain ⟨o, e, _⟩ := st.1; exact ⟨o, e⟩)
    (fun i h h' o nw st e e' kk N' hS => list_st (h₀ := env.locals |> fun _ => h₀) i h h' o nw st e e' kk N' (.inr ⟨_, hS, rfl, _, rfl⟩)) c1 c2 hkind hxk ⟨⟨_, Heap.get?_push_size _ rfl, rfl, rfl⟩, hl.push _⟩ (fun b hb => ?_)
    (F.keeps up) (N.grown up) (Nat.ne_of_lt F.ns.lt) (next_is_new F) (fun p hp => Nat.ne_of_lt (Heap.lt_size (N p hp).1)) S hJ ?_ ?_
  · show b < (s₁.heap.push _).objs.size
    rw [Heap.size_push]
    rcases List.mem_cons.mp hb with rfl | hb
    · exact Nat.lt_succ_self _
    · rw [List.mem_singleton.mp hb]; exact Nat.lt_succ_of_lt hlt
  · intro i ys nw v I oI C oC D K oK h tk E' hi hJ' hS' hP hK F' N' off ne
    exact turn _ i ys nw v I oI C oC D K oK h tk E' (by simpa using hi) hJ' hS' (by simpa using hP) hK F' N' off ne
  · intro D C h' tk m' ys news' F' N' o1 hn hC₀ hD₀ hCL hDL hCD offC hJ'
    show wpAny _ A (assign (.Name y py) env (.ref D)) _ _ _
    refine wpAny_assign_Name (wpAny_storeName_local hy F'.ns (fun h₂ hn₂ hs₂ => ?_) hp)
    have hL₀ : h₀.get? env.locals = none := Heap.get?_none_of_le F'.above
    have F₂ : Fr h₀ env.locals h₂ (fun z => if z = y then some (.ref D) else m z) := ⟨hn₂, fun b o e => hs₂.extBut b o (fun q => by rw [q, hL₀] at e; cases e) (F'.keep b o e), F'.above⟩
    refine ⟨m', hn.sameBut hs₂ hCL, fun h'' hs'' => fin D h'' _ ys news' (by rw [List.size_toArray] at hJ'; exact hJ') (F₂.change hs'' hCL hC₀) (fun p hp => ?_) o1⟩
    have z : h₂.get? p.1 = some p.2 := hs₂.extBut _ _ (N' p hp).2.1 (N' p hp).1
    refine ⟨hs''.extBut _ _ ?_ z, (N' p hp).2⟩
    rcases List.mem_cons.mp hp with rfl | hp
    · exact Ne.symm hCD
    · exact offC p hp
noncomputable def UEnd (h₀ : Heap) (L : Addr) (m : Str → Option Value) (s : Shared) (I : Addr) (oI : Obj) (C : Addr) (oC : Obj) (D : Addr) (oD : Obj) (S : Led → Prop) (J : Value → Led → Prop) (y : Value) (s' : Shared) : Prop :=
  ∃ h' tk' new, s' = { s with heap := h', toks := tk' } ∧ Fr h₀ L h' m ∧ News h₀ L h' ((I, oI) :: (C, oC) :: (D, oD) :: new) ∧ Off3 I C D new ∧ S new ∧ J y new
theorem rest_U {elt : Expr} {x : Str} {scope : Scope} {cl : List (Str × Addr)} {S : Led → Prop} {P : Nat → Value → Prop} {Fin : List Value → Led → Prop} (J : Nat → List Value → Led → Prop)
    (n : Nat) (turn : ∀ i ys news v I oI C oC D m₂ h tk (E' : Value → Shared → Prop), i < n → J i ys news → P i v → NsObj oC m₂ → m₂ x = some v → Fr h₀ L h m → News h₀ L h ((I, oI) :: (C, oC) :: (D, lst ys) :: news) → Off3 I C D news → ((@Ne Nat I C) ∧ (@Ne Nat I D) ∧ (@Ne Nat C D)) →
      wpAny (model prog w) A (eval elt (compEnvC scope cl C env)) (UEnd h₀ L m s I oI C oC D (lst ys) S (fun y new => J (i + 1) (ys ++ [y]) new)) E' { s with heap := h, toks := tk })
    (fin : ∀ ys news, J n ys news → Fin ys news) (k i : Nat) (ys : List Value) (news : Led) (e : i + k = n) (hJ : J i ys news) : CompRest prog w A h₀ L m env elt x scope cl s S P Fin k i ys news :=
  rest_inv J n (fun i ys news v I oI C oC D m₂ h tk E' h1 h2 h3 h4 h5 h6 h7 h8 h9 => wpAny_mono (turn i ys news v I oI C oC D m₂ h tk E' h1 h2 h3 h4 h5 h6 h7 h8 h9) (fun _ _ q => q) fun _ _ q => q) fin k i ys news e hJ
theorem uend_2 {g h' : Heap} {m : Str → Option Value} {I C D T D3 : Addr} {oI oC oD oT o3 : Obj} {nws nw10 : Led} {S : Led → Prop} {J : Value → Led → Prop} {y : Value} {tk : Nat} {s : Shared} (F : Fr g L h' m) (N : News g L h' ((T, oT) :: nw10)) (lT : ∀ p ∈ nw10, p.1 < T)
    (m10 : (D3, o3) ∈ nw10) (s10 : ∀ p ∈ (I, oI) :: (C, oC) :: (D, oD) :: nws, p ∈ nw10) (o10 : ∀ p ∈ (I, oI) :: (C, oC) :: (D, oD) :: nws, @Ne Nat p.1 D3) (off : Off3 I C D nws) (hS : S ((T, oT) :: (D3, o3) :: nws)) (hJ : J y ((T, oT) :: (D3, o3) :: nws)) :
    UEnd g L m s I oI C oC D oD S J y { s with heap := h', toks := tk } := by
  have mI : (I, oI) ∈ (I, oI) :: (C, oC) :: (D, oD) :: nws := List.Mem.head _
  have mC : (C, oC) ∈ (I, oI) :: (C, oC) :: (D, oD) :: nws := List.Mem.tail _ (List.Mem.head _)
  have mD : (D, oD) ∈ (I, oI) :: (C, oC) :: (D, oD) :: nws := List.Mem.tail _ (List.Mem.tail _ (List.Mem.head _))
  refine ⟨h', tk, _ :: _ :: nws, rfl, F, N.perm fun p hp => ?_, Off3.of fun p hp => ?_, hS, hJ⟩
  · rcases List.mem_cons.mp hp with rfl | hp
    · exact List.Mem.tail _ (s10 _ mI)
    rcases List.mem_cons.mp hp with rfl | hp
    · exact List.Mem.tail _ (s10 _ mC)
    rcases List.mem_cons.mp hp with rfl | hp
    · exact List.Mem.tail _ (s10 _ mD)
    rcases List.mem_cons.mp hp with rfl | hp
    · exact List.Mem.head _
    rcases List.mem_cons.mp hp with rfl | hp
    · exact List.Mem.tail _ m10
    · exact List.Mem.tail _ (s10 _ (List.Mem.tail _ (List.Mem.tail _ (List.Mem.tail _ hp))))
  · rcases List.mem_cons.mp hp with rfl | hp
    · exact ⟨Nat.ne_of_gt (lT _ (s10 _ mI)), Nat.ne_of_gt (lT _ (s10 _ mC)), Nat.ne_of_gt (lT _ (s10 _ mD))⟩
    rcases List.mem_cons.mp hp with rfl | hp
    · exact ⟨Ne.symm (o10 _ mI), Ne.symm (o10 _ mC), Ne.symm (o10 _ mD)⟩
    · exact off.mem p hp
/-- a comprehension over a tuple, kept in a cell -/
noncomputable def FinK (h₀ : Heap) (L : Addr) (m : Str → Option Value) (s : Shared) (K : Addr) (Q : Flow → Shared → Prop) (ys : List Value) (news : Led) : Prop :=
  ∀ D h tk o nw', Fr h₀ L h m → News h₀ L h nw' → (K, o) ∈ nw' → o.data = .cell (some (.ref D)) → (D, lst ys) ∈ nw' → Seqs news nw' → Keep [K] news nw' → Q .next { s with heap := h, toks := tk }
theorem Assign_tup_cell {elt iter : Expr} {x y : Str} {px py : Pos} {scope : Scope} {cl : List (Str × Addr)} {pos spos : Pos} {K : Addr} {Q : Flow → Shared → Prop} (_F₀ : Fr h₀ L s.heap m)
    (hsw : swapsWith (.ListComp elt [⟨.Name x px, iter, [], 0⟩] scope pos) (some (.Name y py)) spos.line env = pure false)
    (hclos : closureFor scope env = pure cl) (hcell : ∀ z ∈ scope.names, z.2 ≠ .cell) (hkind : scope.kind = .function)
    (hnames : ∀ z ∈ scope.names, z.2 = .local → scope.names.lookup z.1 = some .local) (hx : scope.names.lookup x = some .local)
    (hy : env.kindOf y = some .cell) (hyc : env.cells.lookup y = some K) (hek : env.scope.kind = .function)
    (h : wpAny (model prog w) A (eval iter env) (SrcTup prog w A h₀ L m env elt x scope cl (fun s₂ ys nw => (∃ o v, (K, o) ∈ nw ∧ o.data = .cell v) ∧ FinK h₀ L m s₂ K Q ys nw)) E s)
    (hs : ∀ x, foldedSetIterable iter env x = pure x := by intro _; rfl) :
    wpAny (model prog w) A (exec (.Assign [.Name y py] (.ListComp elt [⟨.Name x px, iter, [], 0⟩] scope pos) spos) env) Q E s := by
  rw [exec_Assign_Name _ _ _ _ _ hsw]
  refine wpAny_bind (wpAny_standAt (wpAny_bind ?_))
  rw [eval_ListComp]
  refine wpAny_comprehension_free (use := none) rfl hs hclos hkind hnames (wpAny_mono h (fun xv s₁ h₁ => ?_) fun _ _ e => e)
  refine hide_goal fun kHide => ?_
  obtain ⟨ax, its, k, news, rfl, hh, F, N, S, hsz, R⟩ := h₁
  refine kHide ?_
  clear kHide
  have hl : s₁.heap.IsTuple ax its := ⟨_, (N _ S).1, rfl, k, rfl⟩
  have hlt : ax < s₁.heap.objs.size := Heap.lt_size (N _ S).1
  refine wpAny_pyIter_tuple hl ?_
  have up : ∀ b o, s₁.heap.get? b = some o → (s₁.heap.push { cls := .type "tuple_iterator", data := .fields #[.ref ax, .int 0 0] }).get? b = some o := fun b o e => Heap.get?_push_of_some _ e
  refine block_U (Walks.tuple hh s₁.heap.objs.size ax (Nat.ne_of_lt hlt) its) hsz (fun i h st => by obtain ⟨o, e, _⟩ := st.1; exact ⟨o, e⟩) tup_st hcell hkind hx ⟨⟨_, Heap.get?_push_size _ rfl, rfl, rfl⟩, hl.push _⟩ (fun b hb => ?_)
    (F.keeps up) (N.grown up) (Nat.ne_of_lt F.ns.lt) (next_is_new F) (fun p hp => Nat.ne_of_lt (Heap.lt_size (N p hp).1)) S (R _ ⟨_, rfl⟩) ?_
  · show b < (s₁.heap.push _).objs.size
    rw [Heap.size_push]
    rcases List.mem_cons.mp hb with rfl | hb
    · exact Nat.lt_succ_self _
    · rw [List.mem_singleton.mp hb]; exact Nat.lt_succ_of_lt hlt
  · intro D C h' tk m' ys news' F' N' o1 hn hC₀ hD₀ hCL hDL hCD offC fin
    refine hide_goal fun kHide => ?_
    obtain ⟨⟨oK, v₀, hK, hd⟩, fin⟩ := fin
    refine kHide ?_
    clear kHide
    have nK := N' (K, oK) (List.mem_cons_of_mem _ hK)
    have oo := off1_mem o1
    refine ⟨m', hn, fun h'' hs'' => ?_⟩
    have nK'' : h''.get? K = some oK := hs''.extBut _ _ (offC _ hK) nK.1
    refine wpAny_bind (wpAny_standAt (wpAny_bind (wpAny_bindName (wpAny_storeName_cell hek hy hyc ⟨oK, nK'', hd⟩ (fun h₂ hc₂ hs₂ => ?_)))))
    refine hide_goal fun kHide => ?_
    obtain ⟨o', ho', hd'⟩ := hc₂
    refine kHide ?_
    clear kHide
    refine wpAny_pure (fin D h₂ _ o' ((K, o') :: (D, lst ys) :: news'.filter fun p => decide (@Ne Nat p.1 K)) ((F'.change hs'' hCL hC₀).change hs₂ nK.2.1 nK.2.2) (fun p hp => ?_) (List.Mem.head _) hd' (List.Mem.tail _ (List.Mem.head _))
      ((seqs_cell (fun p hp => N' p (List.mem_cons_of_mem _ hp)) hK hd).trans (Seqs.of_sub fun p hp => List.Mem.tail _ (List.Mem.tail _ hp))) (fun p hp hn => List.Mem.tail _ (List.Mem.tail _ (List.mem_filter.mpr ⟨hp, decide_eq_true fun e => hn (List.mem_singleton.mpr e)⟩))))
    rcases List.mem_cons.mp hp with rfl | hp
    · exact ⟨ho', nK.2⟩
    rcases List.mem_cons.mp hp with rfl | hp
    · exact ⟨hs₂.extBut _ _ (Ne.symm (oo _ hK)) (hs''.extBut _ _ (Ne.symm hCD) (N' _ (List.Mem.head _)).1), hDL, hD₀⟩
    · refine hide_goal fun kHide => ?_
      obtain ⟨hp1, hp2⟩ := List.mem_filter.mp hp
      refine kHide ?_
      clear kHide
      have z := N' p (List.mem_cons_of_mem _ hp1)
      exact ⟨hs₂.extBut _ _ (of_decide_eq_true hp2) (hs''.extBut _ _ (offC p hp1) z.1), z.2⟩
/-- a comprehension whose test always fails -/
theorem restT_none {ct elt : Expr} {x : Str} {scope : Scope} {cl : List (Str × Addr)} {S : Led → Prop} {P : Nat → Value → Prop} {Fin : List Value → Led → Prop} {news : Led} (n : Nat) (hS : S news)
    (turn : ∀ (i : Nat) v I oI C oC D m₂ h tk (E' : Value → Shared → Prop), i < n → P i v → NsObj oC m₂ → m₂ x = some v → Fr h₀ L h m → News h₀ L h ((I, oI) :: (C, oC) :: (D, lst []) :: news) → Off3 I C D news → ((@Ne Nat I C) ∧ (@Ne Nat I D) ∧ (@Ne Nat C D)) →
      wpAny (model prog w) A (isTrue ct (compEnvC scope cl C env) (eval ct (compEnvC scope cl C env))) (TestEnd h₀ L m s ((I, oI) :: (C, oC) :: (D, lst []) :: news) false) E' { s with heap := h, toks := tk })
    (fin : Fin [] news) :
    ∀ k i, i + k = n → CompRestT prog w A h₀ L m env ct elt x scope cl s S P Fin k i [] news := by
  intro k
  induction k with
  | zero => intro i e; exact fin
  | succ k ih =>
    intro i e
    intro v I oI C oC D m₂ h tk E' hP hC hx F N off ne
    refine wpAny_mono (turn i v I oI C oC D m₂ h tk E' (by omega) hP hC hx F N off ne) (fun ok s' hs' => ?_) fun _ _ e => e
    refine hide_goal fun kHide => ?_
    obtain ⟨rfl, h', tk', rfl, F', N'⟩ := hs'
    refine kHide ?_
    clear kHide
    simp only [Bool.false_eq_true, if_false]
    exact ⟨h', tk', news, rfl, F', N', off, hS, ih (i + 1) (by omega)⟩
end
/-- what a literal lets, as data -/
noncomputable def pairD (x : Int) (vs : List Int) : Dat := .tuple [.int x, .list (vs.map .int)]
theorem pairD_ok (x : Int) (vs : List Int) : kqdOk 8 (pairD x vs) = true := by
  simp only [pairD, kqdOk, List.all_cons, List.all_nil, Bool.and_true, Bool.true_and, List.all_eq_true, List.mem_map]
  rintro _ ⟨l, hl, rfl⟩
  rfl
noncomputable def letD (l : Lit) : Dat := pairD l.1 (letL l)
theorem negL_fst (l : Lit) : (negL l).1 = l.1 := by unfold negL; split <;> (try rfl); split <;> (try rfl); split <;> rfl
theorem satL_neg {l : Lit} (hs : l.2.1 ∈ signs) (v : Int) : satL (negL l) v = !satL l v := by
  refine hide_goal fun kHide => ?_
  obtain ⟨x, sg, k⟩ := l
  refine kHide ?_
  clear kHide
  simp only [signs, List.mem_cons, List.not_mem_nil, or_false] at hs
  rcases hs with rfl | rfl | rfl | rfl
  · rw [negL_le, satL_ge, satL_le, ← decide_not]; exact decide_eq_decide.mpr (by omega)
  · rw [negL_ge, satL_ge, satL_le, ← decide_not]; exact decide_eq_decide.mpr (by omega)
  · rw [negL_eq, satL_ne, satL_eq]
  · rw [negL_ne, satL_ne, satL_eq]; simp
noncomputable def outL (l : Lit) : List Int := ((List.range 6).map fun (i : Nat) => (-2 : Int) + (i : Int)).filter fun v => !decide (v ∈ letL l)
theorem outL_eq {l : Lit} (hs : l.2.1 ∈ signs) : outL l = letL (negL l) := by
  unfold outL
  conv => rhs; unfold letL
  refine List.filter_congr fun v hv => ?_
  rw [satL_neg hs]
  congr 1
  have : v ∈ letL l ↔ satL l v = true := by
    unfold letL
    rw [List.mem_filter]
    exact ⟨fun h => h.2, fun h => ⟨hv, h⟩⟩
  by_cases h : satL l v = true
  · rw [decide_eq_true (this.mpr h), h]
  · rw [decide_eq_false fun q => h (this.mp q)]
    exact (Bool.eq_false_iff.mpr h).symm
theorem due_iff {qs ex : List Lit} {c : Clause} (hc : c = norm (qs.map negL ++ ex)) (hs : ∀ q ∈ qs, q.2.1 ∈ signs) (d : Dat) :
    d ∈ qs.map (fun q => pairD q.1 (outL q)) ++ ex.map letD ↔ d ∈ c.map letD := by
  subst hc
  simp only [List.mem_append, List.mem_map]
  have mn : ∀ l, l ∈ norm (qs.map negL ++ ex) ↔ l ∈ qs.map negL ++ ex := fun l => mem_norm l _
  constructor
  · rintro (⟨q, hq, rfl⟩ | ⟨q, hq, rfl⟩)
    · refine ⟨negL q, (mn _).mpr (List.mem_append_left _ (List.mem_map_of_mem hq)), ?_⟩
      unfold letD
      rw [negL_fst, outL_eq (hs q hq)]
    · exact ⟨q, (mn _).mpr (List.mem_append_right _ hq), rfl⟩
  · rintro ⟨l, hl, rfl⟩
    rcases List.mem_append.mp ((mn _).mp hl) with h | h
    · refine hide_goal fun kHide => ?_
      obtain ⟨q, hq, rfl⟩ := List.mem_map.mp h
      refine kHide ?_
      clear kHide
      refine .inl ⟨q, hq, ?_⟩
      unfold letD
      rw [negL_fst, outL_eq (hs q hq)]
    · exact .inr ⟨l, h, rfl⟩
end Mine
end

section
set_option maxRecDepth 100000
set_option maxHeartbeats 2000000
open PySem PySem.W PySem.Calls PySem.Spec PyProof.Rows PyProof.Rows.LCg PyProof.Rows.LCt
namespace Mine
theorem fresh_C7 : True := by
  w_top off
  trivial
section
variable {M : Model} {A : Around} {E : Value → Shared → Prop} {s : Shared} {h₀ : Heap} {L : Addr} {m : Str → Option Value} {env : Env} {nw : Led}
theorem store_cellN {y : Str} {K : Addr} {o : Obj} {v₀ : Option Value} {v : Value} {Q : Unit → Shared → Prop} (F : Fr h₀ L s.heap m) (N : News h₀ L s.heap nw) (hm : (K, o) ∈ nw) (hd : o.data = .cell v₀) (hk : env.scope.kind = .function) (hy : env.kindOf y = some .cell) (hc : env.cells.lookup y = some K)
    (h : ∀ h' o' nw', Fr h₀ L h' m → News h₀ L h' nw' → (K, o') ∈ nw' → o'.data = .cell (some v) → Seqs nw nw' → Keep [K] nw nw' → Q () { s with heap := h' }) : wpAny M A (storeName env y v) Q E s := by
  have nK := N (K, o) hm
  refine wpAny_storeName_cell hk hy hc ⟨o, nK.1, hd⟩ fun h' hc' hs => ?_
  refine hide_goal fun kHide => ?_
  obtain ⟨o', ho', hd'⟩ := hc'
  refine kHide ?_
  clear kHide
  refine h h' o' ((K, o') :: nw.filter fun p => decide (@Ne Nat p.1 K)) (F.change hs nK.2.1 nK.2.2) (fun p hp => ?_) (List.Mem.head _) hd' ((seqs_cell N hm hd).trans (Seqs.of_sub fun p hp => List.Mem.tail _ hp)) (fun p hp hn => List.Mem.tail _ (List.mem_filter.mpr ⟨hp, decide_eq_true fun e => hn (List.mem_singleton.mpr e)⟩))
  rcases List.mem_cons.mp hp with rfl | hp
  · exact ⟨ho', nK.2⟩
  · refine hide_goal fun kHide => ?_
    obtain ⟨hp1, hp2⟩ := List.mem_filter.mp hp
    refine kHide ?_
    clear kHide
    have z := N p hp1
    exact ⟨hs.extBut _ _ (of_decide_eq_true hp2) z.1, z.2⟩
end
end Mine
end

section
set_option maxRecDepth 100000
set_option maxHeartbeats 8000000
open PySem PySem.W PySem.Calls PyProof.Rows
namespace Mine
theorem fresh_W14 : True := by
  w_top off
  trivial
section
variable {w : World} {A₀ A : Around} {base h₀ : Heap} {outer : List Env} {env : Env} {L : Addr} {m mg mb : Str → Option Value} {mean : ExcName → Option Value} {E : Value → Shared → Prop} {s : Shared} {nw : Led}
local macro_rules | `(tactic| k_mem) => `(tactic| assumption)
local macro_rules | `(tactic| walk_at "call ref") => `(tactic| (k_here; (with_reducible show wpAny _ _ (call (Value.ref 172) _) _ _ _); refine Mark.go ?_))
local macro_rules | `(tactic| walk_at "call type:tuple") => `(tactic| (k_here; refine Mark.go ?_))
local macro_rules | `(tactic| walk_at "call type:set") => `(tactic| (k_here; refine Mark.go ?_))
local macro_rules | `(tactic| walk_at "call builtin:sorted") => `(tactic| (k_here; refine Mark.go ?_))
local macro_rules | `(tactic| walk_at "compareOp NotEq ref ref") => `(tactic| (k_here; refine Mark.go ?_))
local macro_rules | `(tactic| walk_at "compareOp Eq ref ref") => `(tactic| (k_here; refine Mark.go ?_))
local macro_rules | `(tactic| walk_at "compareOp NotIn") => `(tactic| (k_here; refine Mark.go ?_))
local macro_rules | `(tactic| walk_at "subscriptTail") => `(tactic| (k_here; refine Mark.go ?_))
local macro_rules | `(tactic| walk_at "eval ListComp") => `(tactic| (k_here; refine Mark.go ?_))
local macro_rules | `(tactic| walk_at "CompSrc") => `(tactic| (k_here; refine Mark.go ?_))
local macro_rules | `(tactic| walk_at "CompSrcT") => `(tactic| (k_here; refine Mark.go ?_))
local macro_rules | `(tactic| walk_at "exec Assign cons ListComp") => `(tactic| (k_here; refine Mark.go ?_))
noncomputable def JB (qs : List (Lit × Addr)) (nw0 : Led) (i : Nat) (ys : List Value) (nw : Led) : Prop := (∀ p ∈ nw0, p ∈ nw) ∧ DatAll nw ys ((qs.take i).map fun q => pairD q.1.1 (outL q.1))
theorem src_barred {prog : Program} {elt : PySem.Expr} {x y : Str} {scope : Scope} {cl : List (Str × Addr)} {rp : Addr} {qs : List (Lit × Addr)} {k : Nat} {news : Led} {Q : Flow → Shared → Prop} (hh : A.handled = none) (F : Fr h₀ L s.heap m) (N : News h₀ L s.heap news) (hm : (rp, listOf (refs qs).toArray k) ∈ news) (hl : qs.length ≤ 1000)
    (turn : ∀ g, TurnC prog w A h₀ L m env elt x scope cl rp (refs qs) k (JB qs news) { s with heap := g })
    (fin : ∀ D h tk ys news', JB qs news qs.length ys news' → Fr h₀ L h (fun z => if z = y then some (.ref D) else m z) → News h₀ L h ((D, LCg.lst ys) :: news') → (∀ p ∈ news', @Ne Nat p.1 D) → Q .next { s with heap := h, toks := tk }) :
    SrcC prog w A h₀ L m env elt x scope cl y Q (.ref rp) s :=
  ⟨rp, refs qs, k, news, JB qs news, rfl, hh, F, N, hm, by simp [refs]; exact hl, ⟨fun _ q => q, .nil⟩, turn, fun D h tk ys news' hJ => fin D h tk ys news' (by simpa [refs] using hJ)⟩
theorem cend_2 {g h' : Heap} {m : Str → Option Value} {I C D K T D2 : Addr} {oI oC oD oK oT o2 : Obj} {nws : Led} {S : Led → Prop} {J : Value → Led → Prop} {y : Value} {tk : Nat} {s : Shared} (F : Fr g L h' m) (N : News g L h' ((T, oT) :: (D2, o2) :: (I, oI) :: (C, oC) :: (D, oD) :: (K, oK) :: nws))
    (l9 : @LT.lt Nat _ D2 T ∧ @LT.lt Nat _ I T ∧ @LT.lt Nat _ C T ∧ @LT.lt Nat _ D T ∧ @LT.lt Nat _ K T ∧ AllLt T nws) (oo : ∀ p ∈ (I, oI) :: (C, oC) :: (D, oD) :: (K, oK) :: nws, @Ne Nat p.1 D2) (off : Off4 I C D K nws) (hS : S ((T, oT) :: (D2, o2) :: nws)) (hJ : J y ((T, oT) :: (D2, o2) :: nws)) :
    CEnd g L m s I oI C oC D oD K oK S J y { s with heap := h', toks := tk } := by
  refine ⟨h', tk, _ :: _ :: nws, rfl, F, N.perm fun p hp => ?_, fun p hp => ?_, hS, hJ⟩
  · simp only [List.mem_cons] at hp ⊢
    rcases hp with hp | hp | hp | hp | hp | hp | hp <;> simp [hp]
  · rcases List.mem_cons.mp hp with rfl | hp
    · exact ⟨Nat.ne_of_gt l9.2.1, Nat.ne_of_gt l9.2.2.1, Nat.ne_of_gt l9.2.2.2.1, Nat.ne_of_gt l9.2.2.2.2.1⟩
    rcases List.mem_cons.mp hp with rfl | hp
    · exact ⟨Ne.symm (oo _ (List.Mem.head _)), Ne.symm (oo _ (List.Mem.tail _ (List.Mem.head _))), Ne.symm (oo _ (List.Mem.tail _ (List.Mem.tail _ (List.Mem.head _)))), Ne.symm (oo _ (List.Mem.tail _ (List.Mem.tail _ (List.Mem.tail _ (List.Mem.head _)))))⟩
    · exact off p hp
theorem dup_head {g h : Heap} {p : Addr × Obj} {l : Led} (N : News g L h l) (hp : p ∈ l) : News g L h (p :: l) := fun q hq => by
  rcases List.mem_cons.mp hq with rfl | hq
  · exact N _ hp
  · exact N _ hq
theorem DatAll.len {nw : Led} {vs : List Value} {ds : List Dat} (h : DatAll nw vs ds) : vs.length = ds.length := by
  induction vs generalizing ds with
  | nil => cases h; rfl
  | cons v vs ih =>
    cases h with
    | cons a b =>
      have q := ih b
      exact congrArg Nat.succ q
theorem dat_snoc {nw : Led} {vs : List Value} {ds : List Dat} {v : Value} {d : Dat} (h : DatAll nw vs ds) (hv : DatIn nw v d) : DatAll nw (vs ++ [v]) (ds ++ [d]) := by
  induction vs generalizing ds with
  | nil => cases h; exact .cons hv .nil
  | cons v vs ih =>
    cases h with
    | cons a b =>
      have q := ih b
      exact .cons a q
theorem take_snoc {α : Type} {l : List α} {i : Nat} {x : α} (h : l[i]? = some x) : l.take (i + 1) = l.take i ++ [x] := by
  rw [List.take_add_one, h]; rfl
open Classical in
theorem intd_mem {v : Int} {xs : List Int} : Dat.int v ∈ xs.map Dat.int ↔ v ∈ xs := by
  rw [List.mem_map]
  exact ⟨fun ⟨x, h1, h2⟩ => by cases h2; exact h1, fun h => ⟨v, h, rfl⟩⟩
theorem intd_ok (xs : List Int) : ∀ d ∈ xs.map Dat.int, kqdOk 8 d = true := fun d hd => by
  refine hide_goal fun kHide => ?_
  obtain ⟨x, _, rfl⟩ := List.mem_map.mp hd
  refine kHide ?_
  clear kHide
  rfl
noncomputable def JL (qs : List (Lit × Addr)) (nw0 : Led) (i : Nat) (ys : List Value) (nw : Led) : Prop := (∀ p ∈ nw0, p ∈ nw) ∧ DatAll nw ys ((qs.take i).map fun q => letD q.1)
theorem not_dec {p : Prop} {inst : Decidable p} (h : p) : (!@decide p inst) = false := by rw [@decide_eq_true p inst h]; rfl
theorem JL.more {qs : List (Lit × Addr)} {nw0 nw nw' : Led} {i : Nat} {ys : List Value} {v : Value} {q : Lit × Addr} (h : JL qs nw0 i ys nw) (sub : ∀ p ∈ nw, p ∈ nw') (hq : qs[i]? = some q) (hv : DatIn nw' v (letD q.1)) : JL qs nw0 (i + 1) (ys ++ [v]) nw' := by
  refine ⟨fun p hp => sub p (h.1 p hp), ?_⟩
  rw [take_snoc hq, List.map_append]
  exact dat_snoc (h.2.mono sub) hv
theorem JB.more {qs : List (Lit × Addr)} {nw0 nw nw' : Led} {i : Nat} {ys : List Value} {v : Value} {q : Lit × Addr} (h : JB qs nw0 i ys nw) (sub : ∀ p ∈ nw, p ∈ nw') (hq : qs[i]? = some q) (hv : DatIn nw' v (pairD q.1.1 (outL q.1))) : JB qs nw0 (i + 1) (ys ++ [v]) nw' := by
  refine ⟨fun p hp => sub p (h.1 p hp), ?_⟩
  rw [take_snoc hq, List.map_append]
  exact dat_snoc (h.2.mono sub) hv
theorem isclause_N {ca rp mp : Addr} {c : Clause} {qs exq : List (Lit × Addr)} {nr nm' : Nat} {Q : Value → Shared → Prop}
    (G : Gr w A₀ base h₀ outer mean mg mb) (a0 : Ar 40 150 A env outer L) (F : Fr h₀ L s.heap m) (N : News h₀ L s.heap nw) (hca : ClIn nw c ca) (hc : c = norm (qs.map (fun q => negL q.1) ++ exq.map (·.1))) (hcl : c.length ≤ 3)
    (hr : (rp, listOf (refs qs).toArray nr) ∈ nw) (hm : (mp, listOf (refs exq).toArray nm') ∈ nw) (hq : LitsIn nw qs) (hex : LitsIn nw exq) (hql : qs.length ≤ 2) (hel : exq.length ≤ 1)
    (h : ∀ h' tk d nw', Fr h₀ L h' m → News h₀ L h' nw' → (∀ p ∈ nw, p ∈ nw') → Q (.bool true) { s with heap := h', toks := tk, drawn := d }) :
    wpAny (model PR w) A (call (.ref 177) [.ref ca, .ref rp, .ref mp]) Q E s := by
  refine hide_goal fun kHide => ?_
  obtain ⟨qc, nc, mc, ec, hqc⟩ := hca
  refine kHide ?_
  clear kHide
  have hql2 : qc.length ≤ 3 := by rw [← ec, List.length_map] at hcl; exact hcl
  obtain ⟨hd, dp, fr, gs, u⟩ := A
  obtain ⟨⟨kd, nm, ig, ic, mo⟩, lc, gl, ce, ql, fu, co, frm, bt⟩ := env
  refine hide_goal fun kHide => ?_
  obtain ⟨rfl, rfl, hdp, hun, hlo, hki⟩ := a0
  refine kHide ?_
  clear kHide
  dsimp only at hlo hki
  subst hlo hki
  refine hide_goal fun kHide => ?_
  obtain ⟨B, X, T⟩ := G
  refine kHide ?_
  clear kHide
  have fill : (∀ P : Params, Ahead.heap_1_39 P = Ahead.heap_1_39 P) ∧ PySem.Challenge.rw_qd0004_01 = PySem.Challenge.rw_qd0004_01 := by
    k_fill
    exact ⟨fun _ => rfl, rfl⟩
  clear fill
  dsimp only at hdp hun
  refine wpAny_call ?_
  k_enter
  k_steps
  rename News _ _ _ _ => kN
  rename Fr _ _ _ (bindL _ _ _) => kF
  rename ∀ (p : Addr × Obj), p ∈ nw → p.fst < _ => klt
  refine Mark.un (set_tuple (qs := qc) kF kN rfl (by k_room) (sub_2 kN _ mc) (fun q hq' => (hqc q hq').mono (sub_2 kN)) hql2 ?_)
  intro S oS h3 tk3 F3 N3 l3 hS
  dsimp only
  k_steps
  refine Mark.un (sorted_lits F3 N3 rfl (List.mem_cons_self ..) (setLits_mono hS fun p hp => List.mem_cons_of_mem _ hp) ?_)
  intro D5 h5 tk5 d5 qs5 c5 F5 N5 l5 asc5 hin5 len5 mem5
  dsimp only
  k_steps
  refine Mark.un (kde_tupleOf F5 N5 (N5.isList (n := c5) (d := none) (sl := #[]) (List.mem_cons_self ..)) (by simp only [refs, List.size_toArray, List.length_map]; first | (with_reducible first | assumption | exact u_1 | exact u_2 | exact u_3 | exact i_0 | exact i_1 | exact i_2 | exact n_le | exact sub0 | exact c_0 | exact c_lo | exact c_le | exact c_lt | exact c_pos | exact n_s1 | exact n_eq) | decide | omega) rfl ?_)
  intro D6 h6 F6 N6 l6
  dsimp only
  k_steps
  have hcok : ClOk c := by rw [hc]; exact norm_ok (fun q hq' => (hq q hq').2) (fun q hq' => (hex q hq').2)
  have e5 : qs5.map (·.1) = c := by
    rw [hc]
    refine norm_unique asc5 fun l => (mem5 l).trans ?_
    rw [ec, hc]
    exact mem_norm l _
  have hD6 : ClIn _ c D6 := ⟨qs5, _, mem_1 N6, e5, fun q hq' => (hin5 q hq').mono (sub_2 N6)⟩
  have hca6 : ClIn _ c ca := ⟨qc, nc, sub_5 N6 _ mc, ec, fun q hq' => (hqc q hq').mono (sub_5 N6)⟩
  refine Mark.un (ne_dat N6 hca6.dat hD6.dat (clD_ok hcok 6) (clD_ok hcok 6) (by k_room) (fun he => ?_) (fun he => absurd rfl he))
  (try dsimp only)
  k_steps
  refine Mark.un (Assign_C1 F6 (by rfl) (by with_unfolding_all rfl) (by with_unfolding_all rfl) (fun _ _ => rfl) (fun _ => rfl) (by rfl) (by decide) (fun _ _ => by rfl) (by rfl) (by rfl) ?_)
  k_steps
  refine src_barred rfl (by assumption) N6 (sub_5 N6 _ hr) (by first | (with_reducible first | assumption | exact u_1 | exact u_2 | exact u_3 | exact i_0 | exact i_1 | exact i_2 | exact n_le | exact sub0 | exact c_0 | exact c_lo | exact c_le | exact c_lt | exact c_pos | exact n_s1 | exact n_eq) | decide | omega) ?_ ?_
  · intro g i ys nws v I oI C oC D K oK h tk E' hi hJ hS hv hK F2 N2 off ne
    refine hide_goal fun kHide => ?_
    obtain ⟨hsub, hdat⟩ := hJ
    refine kHide ?_
    clear kHide
    simp only [refs, List.getElem?_map, Option.map_eq_some_iff] at hv
    refine hide_goal fun kHide => ?_
    obtain ⟨q, hq1, rfl⟩ := hv
    obtain ⟨⟨n1, t1, t2, t3, hin⟩, hsg⟩ := hq q (List.mem_of_getElem? hq1)
    refine kHide ?_
    clear kHide
    have hin2 := sub_4 N2 _ (hsub _ (sub_5 N6 _ hin))
    have hKm := mem_4 N2
    k_steps
    refine Mark.un (tupAt N2 hin2 (by first | (with_reducible first | assumption | exact u_1 | exact u_2 | exact u_3 | exact i_0 | exact i_1 | exact i_2 | exact n_le | exact sub0 | exact c_0 | exact c_lo | exact c_le | exact c_lt | exact c_pos | exact n_s1 | exact n_eq) | decide | omega) (by simp) (by first | (with_reducible first | assumption | exact u_1 | exact u_2 | exact u_3 | exact i_0 | exact i_1 | exact i_2 | exact n_le | exact sub0 | exact c_0 | exact c_lo | exact c_le | exact c_lt | exact c_pos | exact n_s1 | exact n_eq) | decide | omega) fun v' hv' => ?_)
    cases hv'
    (try dsimp only)
    k_steps
    refine Mark.un (LCt.ListComp_T (F₀ := by k_asm) (by with_unfolding_all rfl) (by decide) (by rfl) (by decide) (by rfl) ?_)
    k_steps
    rename News _ _ _ _ => kN7
    refine Mark.un (LCt.CompSrcT.range (n := 6) (by rfl) (by k_asm) (by k_asm) (by assumption) (by first | decide | rfl) (by first | rfl | decide) (by first | size_fits | exact Nat.le_of_ble_eq_true rfl) ?_)
    intro g1
    refine restT_filter (fun v => !decide (v ∈ letL q.1)) (-2) 6 ?turnq rfl (fun _ => rfl) (by decide) ?finq 6 0 [] (by rfl) .nil
    case turnq =>
      intro i2 ys2 I2 oI2 C2 oC2 D2 m₂ h8 tk8 t8 E8 hi2 hC2 hx2 F8 N8 off8 ne8
      have hin8 := sub_3 N8 _ hin2
      have hK8 := sub_3 N8 _ hKm
      have hC8 := mem_2 N8
      k_steps
      refine Mark.un (let_core ⟨by assumption, by assumption, by assumption⟩ ⟨rfl, rfl, by k_room, by k_room, rfl, rfl⟩ (by assumption) (dup_head N8 hin8) hsg ?_)
      intro D3 ys3 h10 tk10 nw10 F10 N10 m10 i10 s10 o10
      have hC10 := s10 _ hC8
      dsimp only
      k_steps
      refine Mark.un (kqd_notIn N10 m10 rfl rfl (ints_dat i10) (fun _ hp => hp) (n₂ := []) (.int _ _) (fun _ hp => nomatch hp) (intd_ok _) rfl (by k_room) ?_)
      k_steps
      refine ⟨?_, _, _, rfl, by assumption, N10.perm s10⟩
      exact congrArg _ (decide_eq_decide.mpr intd_mem)
    case finq =>
      intro ys2 hys2
      unfold LCg.FinE
      intro D2 h9 tk9 F9 N9 o9
      have oo9 := off1_mem o9
      dsimp only
      k_steps
      rename News _ _ _ (_ :: _ :: _ :: _ :: _ :: _ :: nws) => kN9
      rename _ ∧ _ ∧ _ ∧ _ ∧ _ ∧ AllLt _ _ => l9
      exact cend_2 (by assumption) kN9 l9 oo9 off (List.Mem.tail _ (List.Mem.tail _ hS)) (JB.more ⟨hsub, hdat⟩ (fun p hp => List.Mem.tail _ (List.Mem.tail _ hp)) hq1 (.tuple (vs := [.int q.1.1 t1, .ref D2]) (List.Mem.head _) (.cons (.int _ _) (.cons (.list (List.Mem.tail _ (List.Mem.head _)) (ints_dat hys2)) .nil))))
  · intro D h7 tk7 ys news' hJ F7 N7 off7
    refine hide_goal fun kHide => ?_
    obtain ⟨hsub7, hdat7⟩ := hJ
    refine kHide ?_
    clear kHide
    rw [List.take_length] at hdat7
    have hdue := hsub7 _ (mem_5 N6)
    have hfou := hsub7 _ (mem_4 N6)
    have hm7 := sub_1 N7 _ (hsub7 _ (sub_5 N6 _ hm))
    have up6 := sub_5 N6
    clear kN N3 N5 N6
    k_steps
    refine Mark.un (LCg.ListComp_U (F₀ := F7) (by with_unfolding_all rfl) (by decide) (by rfl) (by decide) (by rfl) ?_)
    k_steps
    refine Mark.un (LCg.CompSrc.ledger rfl F7 N7 hm7 (by simp only [refs, List.size_toArray, List.length_map]; rw [sizeLine_eq]; first | (with_reducible first | assumption | exact u_1 | exact u_2 | exact u_3 | exact i_0 | exact i_1 | exact i_2 | exact n_le | exact sub0 | exact c_0 | exact c_lo | exact c_le | exact c_lt | exact c_pos | exact n_s1 | exact n_eq) | decide | omega) ?_)
    intro g1
    refine rest_U (JL exq _) exq.length ?_ ?_ _ 0 [] _ (by simp [refs]) ⟨fun _ q => q, .nil⟩
    · intro i ys8 nws v I oI C oC D8 m₂ h8 tk8 E8 hi hJ hP hC hx F8 N8 off8 ne8
      refine hide_goal fun kHide => ?_
      obtain ⟨hsub8, hdat8⟩ := hJ
      refine kHide ?_
      clear kHide
      simp only [refs, List.getElem?_toArray, List.getElem?_map, Option.map_eq_some_iff] at hP
      refine hide_goal fun kHide => ?_
      obtain ⟨q, hq1, rfl⟩ := hP
      obtain ⟨⟨n1, t1, t2, t3, hin⟩, hsg⟩ := hex q (List.mem_of_getElem? hq1)
      refine kHide ?_
      clear kHide
      have hin8 := sub_3 N8 _ (hsub8 _ (sub_1 N7 _ (hsub7 _ (up6 _ hin))))
      have hC8 := mem_2 N8
      k_steps
      refine Mark.un (tupAt N8 hin8 (by first | (with_reducible first | assumption | exact u_1 | exact u_2 | exact u_3 | exact i_0 | exact i_1 | exact i_2 | exact n_le | exact sub0 | exact c_0 | exact c_lo | exact c_le | exact c_lt | exact c_pos | exact n_s1 | exact n_eq) | decide | omega) (by simp) (by first | (with_reducible first | assumption | exact u_1 | exact u_2 | exact u_3 | exact i_0 | exact i_1 | exact i_2 | exact n_le | exact sub0 | exact c_0 | exact c_lo | exact c_le | exact c_lt | exact c_pos | exact n_s1 | exact n_eq) | decide | omega) fun v' hv' => ?_)
      cases hv'
      (try dsimp only)
      k_steps
      refine Mark.un (let_core ⟨by assumption, by assumption, by assumption⟩ ⟨rfl, rfl, by k_room, by k_room, rfl, rfl⟩ (by assumption) (dup_head N8 hin8) hsg ?_)
      intro D3 ys3 h10 tk10 nw10 F10 N10 m10 i10 s10 o10
      dsimp only
      k_steps
      rename News _ _ _ (_ :: nw10) => kNT
      exact uend_2 (by assumption) kNT (by assumption) m10 s10 o10 off8 (.inr ⟨_, List.Mem.tail _ (List.Mem.tail _ (hsub8 _ hm7)), rfl, _, rfl⟩) (JL.more ⟨hsub8, hdat8⟩ (fun p hp => List.Mem.tail _ (List.Mem.tail _ hp)) hq1 (.tuple (vs := [.int q.1.1 t1, .ref D3]) (List.Mem.head _) (.cons (.int _ _) (.cons (.list (List.Mem.tail _ (List.Mem.head _)) (ints_dat i10)) .nil))))
    · rintro ys8 nws ⟨hsub8, hdat8⟩
      rw [List.take_length] at hdat8
      unfold LCg.FinE
      intro D8 h8 tk8 F8 N8 o8
      have oo8 := off1_mem o8
      dsimp only
      k_steps
      have hl7 := DatAll.len hdat7
      have hl8 := DatAll.len hdat8
      rw [List.length_map] at hl7 hl8
      have hdue8 := sub_1 N8 _ (hsub8 _ (sub_1 N7 _ hdue))
      have hfou8 := sub_1 N8 _ (hsub8 _ (sub_1 N7 _ hfou))
      have ups8 : ∀ p ∈ nw, p ∈ _ := fun p hp => hsub8 p (sub_1 N7 _ (hsub7 _ (up6 _ hp)))
      have hdat78 : DatAll nws ys (qs.map fun q => pairD q.1.1 (outL q.1)) := hdat7.mono fun p hp => hsub8 p (sub_1 N7 _ hp)
      refine add_lists (vs := ys) (ws := ys8) F8 N8 (N8.isList (d := none) (sl := #[]) (sub_1 N8 _ (hsub8 _ (mem_1 N7)))) (N8.isList (d := none) (sl := #[]) (mem_1 N8)) ?_ (by rw [sizeLine_eq]; first | (with_reducible first | assumption | exact u_1 | exact u_2 | exact u_3 | exact i_0 | exact i_1 | exact i_2 | exact n_le | exact sub0 | exact c_0 | exact c_lo | exact c_le | exact c_lt | exact c_pos | exact n_s1 | exact n_eq) | decide | omega)
      intro h9 F9 N9
      (try dsimp only)
      k_steps
      refine store_cellN F9 N9 (List.Mem.tail _ hdue8) (by assumption) rfl rfl rfl ?_
      intro h11 o11 nw11 F11 N11 hdue11 hd11 sq11 kp11
      have sq11' : Seqs nw nw11 := fun p hp q => sq11 p (List.Mem.tail _ (List.Mem.tail _ (ups8 p hp))) q
      have hE11 := sq11 _ (mem_1 N9) ⟨_, _, rfl⟩
      have dueA := dats_seqs (fun p hp q => sq11 p (List.Mem.tail _ (List.Mem.tail _ hp)) q) (dats_append hdat78 hdat8)
      have hfou11 := kp11 _ (List.Mem.tail _ hfou8) (fun e => absurd (List.mem_singleton.mp e) (Nat.ne_of_gt (Nat.lt_succ_self _)))
      have hmc11 := sq11' _ mc ⟨_, _, rfl⟩
      (try dsimp only)
      k_steps
      refine Mark.un (Assign_tup_cell F11 (by with_unfolding_all rfl) (by with_unfolding_all rfl) (by decide) (by rfl) (by decide) (by rfl) (by rfl) (by rfl) (by rfl) ?_)
      k_steps
      refine ⟨ca, (refs qc).toArray, nc, _, rfl, rfl, F11, N11, hmc11, by simp only [refs, List.size_toArray, List.length_map]; rw [sizeLine_eq]; (first | (with_reducible first | assumption | exact u_1 | exact u_2 | exact u_3 | exact i_0 | exact i_1 | exact i_2 | exact n_le | exact sub0 | exact c_0 | exact c_lo | exact c_le | exact c_lt | exact c_pos | exact n_s1 | exact n_eq) | decide | omega), ?_⟩
      rintro _ ⟨g2, rfl⟩
      refine rest_U (JL qc _) qc.length ?_ ?_ _ 0 [] _ (by simp [refs]) ⟨fun _ q => q, .nil⟩
      · intro i ys12 nws12 v I oI C oC D12 m₂ h12 tk12 E12 hi hJ hP hC hx F12 N12 off12 ne12
        refine hide_goal fun kHide => ?_
        obtain ⟨hsub12, hdat12⟩ := hJ
        refine kHide ?_
        clear kHide
        simp only [refs, List.getElem?_toArray, List.getElem?_map, Option.map_eq_some_iff] at hP
        refine hide_goal fun kHide => ?_
        obtain ⟨q, hq1, rfl⟩ := hP
        refine kHide ?_
        clear kHide
        have hsg : q.1.2.1 ∈ signs := hcok _ (ec ▸ List.mem_map_of_mem (List.mem_of_getElem? hq1))
        refine hide_goal fun kHide => ?_
        obtain ⟨n1, t1, t2, t3, hin⟩ := hqc q (List.mem_of_getElem? hq1)
        refine kHide ?_
        clear kHide
        have hin12 := sub_3 N12 _ (hsub12 _ (sq11' _ hin ⟨_, _, rfl⟩))
        have hC12 := mem_2 N12
        k_steps
        refine Mark.un (tupAt N12 hin12 (by first | (with_reducible first | assumption | exact u_1 | exact u_2 | exact u_3 | exact i_0 | exact i_1 | exact i_2 | exact n_le | exact sub0 | exact c_0 | exact c_lo | exact c_le | exact c_lt | exact c_pos | exact n_s1 | exact n_eq) | decide | omega) (by simp) (by first | (with_reducible first | assumption | exact u_1 | exact u_2 | exact u_3 | exact i_0 | exact i_1 | exact i_2 | exact n_le | exact sub0 | exact c_0 | exact c_lo | exact c_le | exact c_lt | exact c_pos | exact n_s1 | exact n_eq) | decide | omega) fun v' hv' => ?_)
        cases hv'
        (try dsimp only)
        k_steps
        refine Mark.un (let_core ⟨by assumption, by assumption, by assumption⟩ ⟨rfl, rfl, by k_room, by k_room, rfl, rfl⟩ (by assumption) (dup_head N12 hin12) hsg ?_)
        intro D3 ys3 h10 tk10 nw10 F10 N10 m10 i10 s10 o10
        dsimp only
        k_steps
        rename News _ _ _ (_ :: nw10) => kNT
        exact uend_2 (by assumption) kNT (by assumption) m10 s10 o10 off12 (List.Mem.tail _ (List.Mem.tail _ (hsub12 _ hmc11))) (JL.more ⟨hsub12, hdat12⟩ (fun p hp => List.Mem.tail _ (List.Mem.tail _ hp)) hq1 (.tuple (vs := [.int q.1.1 t1, .ref D3]) (List.Mem.head _) (.cons (.int _ _) (.cons (.list (List.Mem.tail _ (List.Mem.head _)) (ints_dat i10)) .nil))))
      · rintro ys12 nws12 ⟨hsub12, hdat12⟩
        rw [List.take_length] at hdat12
        refine ⟨⟨_, _, hsub12 _ hfou11, by assumption⟩, ?_⟩
        intro D13 h13 tk13 o13 nw13 F13 N13 hfou13 hd13 hD13 sq13 kp13
        have hdue13 := kp13 _ (hsub12 _ hdue11) (fun e => absurd (List.mem_singleton.mp e) (Nat.ne_of_lt (Nat.lt_succ_self _)))
        have hE13 := sq13 _ (hsub12 _ hE11) ⟨_, _, rfl⟩
        have dueB := dats_seqs (fun p hp q => sq13 p (hsub12 p hp) q) dueA
        have founB := dats_seqs sq13 hdat12
        have up13 : Seqs nw nw13 := sq11'.trans (fun p hp q => sq13 p (hsub12 p hp) q)
        (try dsimp only)
        k_steps
        have hiff : ∀ d, d ∈ (qs.map fun q => pairD q.1.1 (outL q.1)) ++ (exq.map fun q => letD q.1) ↔ d ∈ qc.map fun q => letD q.1 := fun d => by
          have := due_iff (qs := qs.map (·.1)) (ex := exq.map (·.1)) (c := c) (by rw [hc, List.map_map]; rfl) (fun l hl => by obtain ⟨q, hq', rfl⟩ := List.mem_map.mp hl; exact (hq q hq').2) d
          rw [← ec] at this
          simpa only [List.map_map, Function.comp_def] using this
        have found_ok : ∀ d ∈ qc.map fun q => letD q.1, kqdOk 8 d = true := fun d hd => by
          refine hide_goal fun kHide => ?_
          obtain ⟨q, _, rfl⟩ := List.mem_map.mp hd
          refine kHide ?_
          clear kHide
          exact pairD_ok _ _
        have due_ok : ∀ d ∈ (qs.map fun q => pairD q.1.1 (outL q.1)) ++ (exq.map fun q => letD q.1), kqdOk 8 d = true := fun d hd => found_ok d ((hiff d).mp hd)
        have hl12 := DatAll.len founB
        have hl13 := DatAll.len dueB
        rw [List.length_map] at hl12
        simp only [List.length_append, List.length_map] at hl13
        refine Mark.un (LCt.ListComp_T (F₀ := F13) (by with_unfolding_all rfl) (by decide) (by rfl) (by decide) (by rfl) ?_)
        k_steps
        refine Mark.un (LCt.CompSrcT.ledger rfl F13 N13 hE13 (by rw [List.size_toArray, sizeLine_eq, List.length_append]; first | (with_reducible first | assumption | exact u_1 | exact u_2 | exact u_3 | exact i_0 | exact i_1 | exact i_2 | exact n_le | exact sub0 | exact c_0 | exact c_lo | exact c_le | exact c_lt | exact c_pos | exact n_s1 | exact n_eq) | decide | omega) ?_)
        intro g14
        refine restT_none _ (.inr ⟨_, hE13, rfl, _, rfl⟩) ?_ ?_ _ 0 (Nat.zero_add _)
        · intro i v I oI C oC D17 m₂ h17 tk17 E17 hi17 hP hC hx F17 N17 off17 ne17
          refine hide_goal fun kHide => ?_
          obtain ⟨d, hd17, hv17⟩ := dat_get dueB (by simpa using hP)
          refine kHide ?_
          clear kHide
          have hdm := List.mem_of_getElem? hd17
          have hC17 := mem_2 N17
          have hO17 := sub_3 N17 _ hfou13
          k_steps
          refine Mark.un (kqd_notIn N17 (sub_3 N17 _ hD13) rfl rfl founB (sub_3 N17) hv17 (sub_3 N17) ?_ ?_ (by k_room) ?_)
          · intro d' hd'
            exact found_ok d' hd'
          · exact due_ok d hdm
          · k_steps
            refine ⟨?_, _, _, rfl, by assumption, N17⟩
            exact not_dec ((hiff d).mp hdm)
        · unfold LCg.FinE
          intro D14 h14 tk14 F14 N14 o14
          (try dsimp only)
          k_steps
          refine Mark.un (LCt.ListComp_T (F₀ := F14) (by with_unfolding_all rfl) (by decide) (by rfl) (by decide) (by rfl) ?_)
          k_steps
          refine Mark.un (LCt.CompSrcT.ledger rfl F14 N14 (sub_1 N14 _ hD13) (by rw [List.size_toArray, sizeLine_eq]; first | (with_reducible first | assumption | exact u_1 | exact u_2 | exact u_3 | exact i_0 | exact i_1 | exact i_2 | exact n_le | exact sub0 | exact c_0 | exact c_lo | exact c_le | exact c_lt | exact c_pos | exact n_s1 | exact n_eq) | decide | omega) ?_)
          intro g15
          refine restT_none _ (.inr ⟨_, (sub_1 N14 _ hD13), rfl, _, rfl⟩) ?_ ?_ _ 0 (Nat.zero_add _)
          · intro i v I oI C oC D17 m₂ h17 tk17 E17 hi17 hP hC hx F17 N17 off17 ne17
            refine hide_goal fun kHide => ?_
            obtain ⟨d, hd17, hv17⟩ := dat_get (founB.mono (sub_1 N14)) (by simpa using hP)
            refine kHide ?_
            clear kHide
            have hdm := List.mem_of_getElem? hd17
            have hC17 := mem_2 N17
            have hO17 := sub_3 N17 _ (sub_1 N14 _ hdue13)
            k_steps
            refine Mark.un (kqd_notIn N17 (sub_3 N17 _ (sub_1 N14 _ hE13)) rfl rfl (dueB.mono (sub_1 N14)) (sub_3 N17) hv17 (sub_3 N17) ?_ ?_ (by k_room) ?_)
            · intro d' hd'
              exact due_ok d' hd'
            · exact found_ok d hdm
            · k_steps
              refine ⟨?_, _, _, rfl, by assumption, N17⟩
              exact not_dec ((hiff d).mpr hdm)
          · unfold LCg.FinE
            intro D15 h15 tk15 F15 N15 o15
            (try dsimp only)
            k_steps
            rename News _ _ _ (_ :: _ :: _ :: _ :: nw13) => kN16
            refine Mark.un (eq_dat kN16 (.list (vs := []) (ds := []) (mem_2 kN16) .nil) (.list (vs := []) (ds := []) (mem_1 kN16) .nil) rfl rfl (by k_room) (fun _ => ?_) (fun he => absurd rfl he))
            (try dsimp only)
            k_steps
            rename News h₀ _ _ _ => kN17
            exact h _ _ _ _ (by assumption) kN17 fun p hp => sub_4 kN17 _ (kp13 _ (hsub12 _ (kp11 _ (List.Mem.tail _ (List.Mem.tail _ (ups8 p hp))) (fun e => absurd (List.mem_singleton.mp e) (Nat.ne_of_lt (Nat.lt_succ_of_lt (klt p hp)))))) (fun e => absurd (List.mem_singleton.mp e) (Nat.ne_of_lt (Nat.lt_succ_of_lt (Nat.lt_succ_of_lt (klt p hp))))))
end
end Mine
end

section
set_option maxRecDepth 100000
set_option maxHeartbeats 8000000
open PySem PySem.W PySem.Calls PyProof.Rows
namespace Mine
theorem fresh_W15 : True := by
  w_top off
  trivial
structure Apart (ld sl pd tp cl : Addr) : Prop where
  a : @Ne Nat tp pd
  b : @Ne Nat tp ld
  c : @Ne Nat cl sl
section
variable {w : World} {A₀ A : Around} {base h₀ : Heap} {outer : List Env} {env : Env} {L : Addr} {m mg mb : Str → Option Value} {mean : ExcName → Option Value} {E : Value → Shared → Prop} {s : Shared} {nw : Led}
theorem TapeAt.ne_of {tp cl a : Addr} {cs : List Value} {sp : Int} {g h : Heap} {o : Obj} (T : TapeAt w tp cl cs sp nw) (N : News g L h nw) (hm : (a, o) ∈ nw) (ho : ∀ es ep, o.data ≠ .dict es ep) : @Ne Nat a tp := by
  refine hide_goal fun kHide => ?_
  obtain ⟨o', nc, h1, h2, h3⟩ := T
  refine kHide ?_
  clear kHide
  refine N.twoPlaces hm h1 ?_
  intro e
  refine hide_goal fun kHide => ?_
  obtain ⟨ts, es, ep, _, hd, _⟩ := h3
  refine kHide ?_
  clear kHide
  rw [← show o = o' from e] at hd
  exact ho _ _ hd
theorem LogAt.tape {lg ld sl pd tp cl : Addr} {cs : List Value} {sp : Int} {st : List Step} {nw' : Led} {g h : Heap} (La : LogAt w lg ld sl pd st nw) (T : TapeAt w tp cl cs sp nw) (ap : Apart ld sl pd tp cl) (N : News g L h nw) (K : Keep [tp] nw nw') : LogAt w lg ld sl pd st nw' := by
  have tu := tape_keep_tups T N K
  refine hide_goal fun kHide => ?_
  obtain ⟨⟨t1, t2, sv, n, po, xs, m1, m2, m3, m4, hpl, hxs, hst, hok⟩, lo, hne⟩ := La
  refine kHide ?_
  clear kHide
  have n1 : @Ne Nat lg tp := T.ne_of N m1 (by intro es ep e; cases e)
  have n3 : @Ne Nat sl tp := T.ne_of N m3 (by intro es ep e; cases e)
  refine ⟨⟨t1, t2, sv, n, po, xs, K _ m1 ?_, K _ m2 ?_, K _ m3 ?_, K _ m4 ?_, hpl, fun x hx => (hxs x hx).ups tu, hst.ups tu, hok⟩, lo, hne⟩
  · exact fun e => n1 (List.mem_singleton.mp e)
  · exact fun e => ap.b (List.mem_singleton.mp e).symm
  · exact fun e => n3 (List.mem_singleton.mp e)
  · exact fun e => ap.a (List.mem_singleton.mp e).symm
theorem TapeAt.log {lg ld sl pd tp cl : Addr} {cs : List Value} {sp : Int} {st : List Step} {nw' : Led} {g h : Heap} (T : TapeAt w tp cl cs sp nw) (La : LogAt w lg ld sl pd st nw) (ap : Apart ld sl pd tp cl) (N : News g L h nw) (K : Keep [sl, pd] nw nw') : TapeAt w tp cl cs sp nw' := by
  refine hide_goal fun kHide => ?_
  obtain ⟨⟨t1, t2, sv, n, po, xs, m1, m2, m3, m4, hpl, hxs, hst, hok⟩, lo, hne⟩ := La
  refine kHide ?_
  clear kHide
  have n3 : @Ne Nat sl tp := T.ne_of N m3 (by intro es ep e; cases e)
  refine hide_goal fun kHide => ?_
  obtain ⟨o, nc, h1, h2, h3⟩ := T
  refine kHide ?_
  clear kHide
  have n4 : @Ne Nat cl pd := N.twoPlaces h2 m4 (dict_ne_seq hpl)
  refine ⟨o, nc, K _ h1 ?_, K _ h2 ?_, h3⟩
  · intro e
    simp only [List.mem_cons, List.not_mem_nil, or_false] at e
    rcases e with e | e
    · exact n3 e.symm
    · exact ap.a e
  · intro e
    simp only [List.mem_cons, List.not_mem_nil, or_false] at e
    rcases e with e | e
    · exact ap.c e
    · exact n4 e
theorem LogAt.tups {lg ld sl pd : Addr} {st : List Step} {nw' : Led} {g h : Heap} (La : LogAt w lg ld sl pd st nw) (N : News g L h nw) (K : Keep [sl, pd] nw nw') : Tups nw nw' := by
  refine hide_goal fun kHide => ?_
  obtain ⟨⟨t1, t2, sv, n, po, xs, m1, m2, m3, m4, hpl, hxs, hst, hok⟩, lo, hne⟩ := La
  refine kHide ?_
  clear kHide
  refine K.tups N fun y hy => ?_
  rcases List.mem_cons.mp hy with rfl | hy
  · exact ⟨_, m3, fun e => absurd (Value.type.inj e) (by decide)⟩
  · rw [List.mem_singleton.mp hy]
    refine hide_goal fun kHide => ?_
    obtain ⟨es, ep, ⟨hd, _⟩, _⟩ := hpl
    refine kHide ?_
    clear kHide
    exact ⟨_, m4, by rw [hd]; exact fun e => absurd (Value.type.inj e) (by decide)⟩
/-- an entry that is neither the list of the steps nor a dict -/
theorem LogAt.keep {lg ld sl pd a : Addr} {o : Obj} {st : List Step} {nw' : Led} {g h : Heap} (La : LogAt w lg ld sl pd st nw) (N : News g L h nw) (K : Keep [sl, pd] nw nw') (hm : (a, o) ∈ nw) (ne : @Ne Nat a sl) (ho : ∀ es ep, o.data ≠ .dict es ep) : (a, o) ∈ nw' := by
  refine hide_goal fun kHide => ?_
  obtain ⟨⟨t1, t2, sv, n, po, xs, m1, m2, m3, m4, hpl, hxs, hst, hok⟩, lo, hne⟩ := La
  refine kHide ?_
  clear kHide
  have n4 : @Ne Nat a pd := N.twoPlaces hm m4 (by
    intro e
    refine hide_goal fun kHide => ?_
    obtain ⟨es, ep, _, hd, _⟩ := hpl
    refine kHide ?_
    clear kHide
    rw [← show o = po from e] at hd
    exact ho _ _ hd)
  refine K _ hm fun e => ?_
  simp only [List.mem_cons, List.not_mem_nil, or_false] at e
  rcases e with e | e
  · exact ne e
  · exact n4 e
/-- what a saying stands on -/
structure SS (w : World) (lg ld sl pd tp cl cp K : Addr) (o : Obj) (cs : List Value) (sp : Int) (st : List Step) (sv : List Value) (n : Nat) (nw : Led) : Prop where
  T : TapeAt w tp cl cs sp nw
  La : LogAt w lg ld sl pd st nw
  ap : Apart ld sl pd tp cl
  kt : @Ne Nat K tp
  cell : (K, o) ∈ nw
  cp : (cp, listOf sv.toArray n) ∈ nw
  st : StAll nw st sv
theorem SS.sub {lg ld sl pd tp cl cp K : Addr} {o : Obj} {cs : List Value} {sp : Int} {st : List Step} {sv : List Value} {n : Nat} {nw' : Led} (x : SS w lg ld sl pd tp cl cp K o cs sp st sv n nw) (k : ∀ p ∈ nw, p ∈ nw') : SS w lg ld sl pd tp cl cp K o cs sp st sv n nw' :=
  ⟨x.T.sub k, x.La.sub k, x.ap, x.kt, k _ x.cell, k _ x.cp, x.st.mono k⟩
theorem SS.tape {lg ld sl pd tp cl cp K : Addr} {o : Obj} {cs : List Value} {sp sp' : Int} {st : List Step} {sv : List Value} {n : Nat} {nw' : Led} {g h : Heap} (x : SS w lg ld sl pd tp cl cp K o cs sp st sv n nw) (N : News g L h nw) (k : Keep [tp] nw nw') (T' : TapeAt w tp cl cs sp' nw') : SS w lg ld sl pd tp cl cp K o cs sp' st sv n nw' :=
  ⟨T', x.La.tape x.T x.ap N k, x.ap, x.kt, k _ x.cell fun e => x.kt (List.mem_singleton.mp e), k _ x.cp fun e => x.T.ne_list N x.cp (List.mem_singleton.mp e), x.st.ups (tape_keep_tups x.T N k)⟩
theorem keep_list {tp cl a : Addr} {cs : List Value} {sp : Int} {its : Array Value} {n : Nat} {nw' : Led} {g h : Heap} (T : TapeAt w tp cl cs sp nw) (N : News g L h nw) (k : Keep [tp] nw nw') (hm : (a, listOf its n) ∈ nw) : (a, listOf its n) ∈ nw' := k _ hm fun e => T.ne_list N hm (List.mem_singleton.mp e)
theorem StAll.take {nw : Led} : ∀ {ss : List Step} {vs : List Value} (k : Nat), StAll nw ss vs → StAll nw (ss.take k) (vs.take k)
  | _, _, 0, _ => by simp [StAll]
  | [], [], _ + 1, _ => by simp [StAll]
  | _ :: _, _ :: _, k + 1, h => ⟨h.1, StAll.take k h.2⟩
  | [], _ :: _, _ + 1, h => h.elim
  | _ :: _, [], _ + 1, h => h.elim
theorem slice_any {prog : Program} {value slice : PySem.Expr} {l : Addr} {items : Array Value} {vl vu : Value} {lo hi : Option Int} {Q : Value → Shared → Prop}
    (F : Fr h₀ L s.heap m) (N : News h₀ L s.heap nw) (hl : s.heap.IsList l items) (pl : IsPart vl lo) (pu : IsPart vu hi)
    (h : ∀ D h', Fr h₀ L h' m → News h₀ L h' ((D, listOf (slicePick items lo hi none) 0) :: nw) → Q (.ref D) { s with heap := h' })
    (hs : subscripted slice false (.ref l) (.ref s.heap.objs.size) = operate [.ref s.heap.objs.size, .ref l] (getItem (.ref l) (.ref s.heap.objs.size)))
    (hsz : items.size ≤ sizeLine) :
    wpAny (model prog w) A (subscriptTail value slice (.ref l) (.ref s.heap.objs.size)) Q E { s with heap := s.heap.push { cls := .type "slice", data := .fields #[vl, vu, .none] } } := by
  refine tail_any (Heap.IsList.typeIs (s := { s with heap := s.heap.push { cls := .type "slice", data := .fields #[vl, vu, .none] } }) (hl.push _)) list_getitem_lookup
    (wpAny_getItem_list_slice (hl.push _) (Heap.IsSliceOf.new ..) pl pu .none (by simp) ?_ hsz) hs
  have N1 := News.push (F.push { cls := .type "slice", data := .fields #[vl, vu, .none] }) (N.grown fun _ _ e => Heap.get?_push_of_some _ e) { cls := .type "list", data := .seq (slicePick items lo hi none) }
  rw [Heap.size_push] at N1
  show Q (.ref (s.heap.push _).objs.size) _
  rw [Heap.size_push]
  exact h _ _ ((F.push _).push _) N1
theorem slice_upto {vs : List Value} {k : Nat} (h : k ≤ vs.length) : PySem.slicePick vs.toArray none (some (k : Int)) none = (vs.take k).toArray := by
  rw [slicePick_upto vs.toArray k (by simpa using h)]
theorem norm_len : ∀ l : Clause, (norm l).length ≤ l.length
  | [] => Nat.le_refl _
  | x :: r => by
    unfold norm
    exact Nat.le_trans (ins_len x (norm r)) (Nat.succ_le_succ (norm_len r))
where
  ins_len (x : Lit) : ∀ r : Clause, (insLit x r).length ≤ r.length + 1
    | [] => Nat.le_refl _
    | y :: r => by
      unfold insLit
      split
      · simp
      · split
        · simp
        · have := ins_len x r
          simp only [List.length_cons]
          omega
theorem statedR_len {st st' : List Step} {c : Clause} {sp : Int} {i : Nat} (h : statedR st c sp = some (i, st')) (hp : 0 ≤ sp) : i < st'.length ∧ (∃ x, st'[i]? = some x ∧ x.cl = c) ∧ st'.take st.length = st ∧ (st' = st ∨ st' = st ++ [strS c sp]) := by
  unfold statedR at h
  split at h
  · rename_i j hf
    cases h
    have hf' := hf
    unfold fidx at hf
    refine hide_goal fun kHide => ?_
    obtain ⟨hi, h1, h2⟩ := List.findIdx?_eq_some_iff_getElem.mp hf
    refine kHide ?_
    clear kHide
    exact ⟨hi, ⟨_, List.getElem?_eq_getElem hi, by simpa using h1⟩, List.take_length, .inl rfl⟩
  · rw [if_neg (Int.not_lt.mpr hp)] at h
    cases h
    exact ⟨by simp, ⟨strS c sp, by simp, rfl⟩, by simp, .inr rfl⟩
end
section
variable {w : World} {A₀ A : Around} {base h₀ : Heap} {outer : List Env} {env : Env} {L : Addr} {m mg mb : Str → Option Value} {mean : ExcName → Option Value} {E : Value → Shared → Prop} {s : Shared} {nw : Led}
local macro_rules | `(tactic| k_mem) => `(tactic| assumption)
local macro_rules | `(tactic| walk_at "call ref") => `(tactic| (k_here; refine Mark.go ?_))
local macro_rules | `(tactic| walk_at "call type:tuple") => `(tactic| (k_here; refine Mark.go ?_))
local macro_rules | `(tactic| walk_at "call builtin:len") => `(tactic| (k_here; refine Mark.go ?_))
local macro_rules | `(tactic| walk_at "compareOp NotEq ref ref") => `(tactic| (k_here; refine Mark.go ?_))
local macro_rules | `(tactic| walk_at "subscriptTail") => `(tactic| (k_here; refine Mark.go ?_))
local macro_rules | `(tactic| walk_at "eval ListComp") => `(tactic| (k_here; refine Mark.go ?_))
local macro_rules | `(tactic| walk_at "CompSrc") => `(tactic| (k_here; refine Mark.go ?_))
theorem said_N {lg ld sl pd tp cl cp : Addr} {spo : Int} {cs : List Value} {ns : List Int} {sv : List Value} {st : List Step} {n : Nat} {Q : Value → Shared → Prop}
    (G : Gr w A₀ base h₀ outer mean mg mb) (a0 : Ar 50 200 A env outer L) (F : Fr h₀ L s.heap m) (N : News h₀ L s.heap nw) (T0 : TapeAt w tp cl cs spo nw) (La : LogAt w lg ld sl pd st nw) (ap : Apart ld sl pd tp cl) (hi : IntsAre cs ns) (hn : ns.length ≤ 63) (h0 : 0 ≤ spo) (h1 : spo ≤ 80000)
    (hm : (cp, listOf sv.toArray n) ∈ nw) (hcs : @Ne Nat cp sl) (hst : StAll nw st sv) (hlen : st.length ≤ 80) (hok : ∀ x ∈ st, StOk x)
    (h : ∀ st' sp' h' tk d nw', st'.length ≤ st.length + 1 → (∀ x ∈ st', StOk x) → spo ≤ sp' → sp' ≤ spo + 20 → Fr h₀ L h' m → News h₀ L h' nw' → TapeAt w tp cl cs sp' nw' → LogAt w lg ld sl pd st' nw' → Keep [tp, sl, pd] nw nw' → Q (.bool true) { s with heap := h', toks := tk, drawn := d }) :
    wpAny (model PR w) A (call (.ref 199) [.ref lg, .ref tp, .ref cp]) Q E s := by
  obtain ⟨hd, dp, fr, gs, u⟩ := A
  obtain ⟨⟨kd, nm, ig, ic, mo⟩, lc, gl, ce, ql, fu, co, frm, bt⟩ := env
  refine hide_goal fun kHide => ?_
  obtain ⟨rfl, rfl, hdp, hun, hlo, hki⟩ := a0
  refine kHide ?_
  clear kHide
  dsimp only at hlo hki
  subst hlo hki
  refine hide_goal fun kHide => ?_
  obtain ⟨B, X, T⟩ := G
  refine kHide ?_
  clear kHide
  have fill : (∀ P : Params, Ahead.heap_1_39 P = Ahead.heap_1_39 P) ∧ PySem.Challenge.rw_qd0004_01 = PySem.Challenge.rw_qd0004_01 := by
    k_fill
    exact ⟨fun _ => rfl, rfl⟩
  clear fill
  dsimp only at hdp hun
  refine wpAny_call ?_
  k_enter
  k_steps
  rename News _ _ _ _ => kN
  rename ∀ (p : Addr × Obj), p ∈ nw → p.fst < _ => klt
  have htp0 : ∃ ot, (tp, ot) ∈ nw := let ⟨o, _, q, _⟩ := T0; ⟨o, q⟩
  refine hide_goal fun kHide => ?_
  obtain ⟨ot, htp0⟩ := htp0
  refine kHide ?_
  clear kHide
  have S0 : SS w lg ld sl pd tp cl cp _ _ cs spo st sv n _ := ⟨T0.sub (sub_1 kN), La.sub (sub_1 kN), ap, Nat.ne_of_gt (Nat.lt_succ_of_lt (klt _ htp0)), mem_1 kN, sub_1 kN _ hm, hst.mono (sub_1 kN)⟩
  refine Mark.un (LCg.ListComp_U (F₀ := by k_asm) (by with_unfolding_all rfl) (by decide) (by rfl) (by decide) (by rfl) ?_)
  k_steps
  refine Mark.un (take_N ⟨by assumption, by assumption, by assumption⟩ ⟨rfl, rfl, by k_room, by k_room, rfl, rfl⟩ (by assumption) kN S0.T hi hn (by first | (with_reducible first | assumption | exact u_1 | exact u_2 | exact u_3 | exact i_0 | exact i_1 | exact i_2 | exact n_le | exact sub0 | exact c_0 | exact c_lo | exact c_le | exact c_lt | exact c_pos | exact n_s1 | exact n_eq | exact p_1 | exact p_1_1 | exact p_1_4 | exact q_1 | exact q_1_1 | exact q_1_4 | exact r_1_5 | exact s_1_5) | decide | omega) (by first | (with_reducible first | assumption | exact u_1 | exact u_2 | exact u_3 | exact i_0 | exact i_1 | exact i_2 | exact n_le | exact sub0 | exact c_0 | exact c_lo | exact c_le | exact c_lt | exact c_pos | exact n_s1 | exact n_eq | exact p_1 | exact p_1_1 | exact p_1_4 | exact q_1 | exact q_1_1 | exact q_1_4 | exact r_1_5 | exact s_1_5) | decide | omega) (by first | (with_reducible first | assumption | exact u_1 | exact u_2 | exact u_3 | exact i_0 | exact i_1 | exact i_2 | exact n_le | exact sub0 | exact c_0 | exact c_lo | exact c_le | exact c_lt | exact c_pos | exact n_s1 | exact n_eq | exact p_1 | exact p_1_1 | exact p_1_4 | exact q_1 | exact q_1_1 | exact q_1_4 | exact r_1_5 | exact s_1_5) | decide | omega) (by first | (with_reducible first | assumption | exact u_1 | exact u_2 | exact u_3 | exact i_0 | exact i_1 | exact i_2 | exact n_le | exact sub0 | exact c_0 | exact c_lo | exact c_le | exact c_lt | exact c_pos | exact n_s1 | exact n_eq | exact p_1 | exact p_1_1 | exact p_1_4 | exact q_1 | exact q_1_1 | exact q_1_4 | exact r_1_5 | exact s_1_5) | decide | omega) ?_)
  intro n1 t1 h1' tk1 nw1 q0 q1 F1 N1 T1 K1
  have S1 := S0.tape kN K1 T1
  clear kN
  have hc1 := S1.cell
  have S1k : ∀ sp' nw', Keep [tp] nw1 nw' → TapeAt w tp cl cs sp' nw' → SS w lg ld sl pd tp cl cp _ _ cs sp' st sv n nw' := fun sp' nw' k T' => S1.tape N1 k T'
  dsimp only
  k_steps
  refine hide_goal fun kHide => ?_
  obtain ⟨nn, rfl⟩ := Int.eq_ofNat_of_zero_le q0
  refine kHide ?_
  clear kHide
  have hn3 : nn ≤ 2 := by omega
  refine Mark.un (LCg.CompSrc.range (n := nn) (by rfl) (by k_asm) (by k_asm) (by assumption) (small_one (by first | (with_reducible first | assumption | exact u_1 | exact u_2 | exact u_3 | exact i_0 | exact i_1 | exact i_2 | exact n_le | exact sub0 | exact c_0 | exact c_lo | exact c_le | exact c_lt | exact c_pos | exact n_s1 | exact n_eq | exact p_1 | exact p_1_1 | exact p_1_4 | exact q_1 | exact q_1_1 | exact q_1_4 | exact r_1_5 | exact s_1_5) | decide | omega) (by first | (with_reducible first | assumption | exact u_1 | exact u_2 | exact u_3 | exact i_0 | exact i_1 | exact i_2 | exact n_le | exact sub0 | exact c_0 | exact c_lo | exact c_le | exact c_lt | exact c_pos | exact n_s1 | exact n_eq | exact p_1 | exact p_1_1 | exact p_1_4 | exact q_1 | exact q_1_1 | exact q_1_4 | exact r_1_5 | exact s_1_5) | decide | omega) (by first | (with_reducible first | assumption | exact u_1 | exact u_2 | exact u_3 | exact i_0 | exact i_1 | exact i_2 | exact n_le | exact sub0 | exact c_0 | exact c_lo | exact c_le | exact c_lt | exact c_pos | exact n_s1 | exact n_eq | exact p_1 | exact p_1_1 | exact p_1_4 | exact q_1 | exact q_1_1 | exact q_1_4 | exact r_1_5 | exact s_1_5) | decide | omega) (by first | (with_reducible first | assumption | exact u_1 | exact u_2 | exact u_3 | exact i_0 | exact i_1 | exact i_2 | exact n_le | exact sub0 | exact c_0 | exact c_lo | exact c_le | exact c_lt | exact c_pos | exact n_s1 | exact n_eq | exact p_1 | exact p_1_1 | exact p_1_4 | exact q_1 | exact q_1_1 | exact q_1_4 | exact r_1_5 | exact s_1_5) | decide | omega)) ((rangeSize_nat _ _).trans (by first | (with_reducible first | assumption | exact u_1 | exact u_2 | exact u_3 | exact i_0 | exact i_1 | exact i_2 | exact n_le | exact sub0 | exact c_0 | exact c_lo | exact c_le | exact c_lt | exact c_pos | exact n_s1 | exact n_eq | exact p_1 | exact p_1_1 | exact p_1_4 | exact q_1 | exact q_1_1 | exact q_1_4 | exact r_1_5 | exact s_1_5) | decide | omega)) (by rw [sizeLine_eq]; first | (with_reducible first | assumption | exact u_1 | exact u_2 | exact u_3 | exact i_0 | exact i_1 | exact i_2 | exact n_le | exact sub0 | exact c_0 | exact c_lo | exact c_le | exact c_lt | exact c_pos | exact n_s1 | exact n_eq | exact p_1 | exact p_1_1 | exact p_1_4 | exact q_1 | exact q_1_1 | exact q_1_4 | exact r_1_5 | exact s_1_5) | decide | omega) ?_)
  intro g1
  refine rest_lits nn ⟨by assumption, by assumption, by assumption⟩ ⟨rfl, rfl, by k_room, by k_room, rfl, rfl⟩ T1 hi hn (by first | (with_reducible first | assumption | exact u_1 | exact u_2 | exact u_3 | exact i_0 | exact i_1 | exact i_2 | exact n_le | exact sub0 | exact c_0 | exact c_lo | exact c_le | exact c_lt | exact c_pos | exact n_s1 | exact n_eq | exact p_1 | exact p_1_1 | exact p_1_4 | exact q_1 | exact q_1_1 | exact q_1_4 | exact r_1_5 | exact s_1_5) | decide | omega) (by first | (with_reducible first | assumption | exact u_1 | exact u_2 | exact u_3 | exact i_0 | exact i_1 | exact i_2 | exact n_le | exact sub0 | exact c_0 | exact c_lo | exact c_le | exact c_lt | exact c_pos | exact n_s1 | exact n_eq | exact p_1 | exact p_1_1 | exact p_1_4 | exact q_1 | exact q_1_1 | exact q_1_4 | exact r_1_5 | exact s_1_5) | decide | omega) ?_ ?_
  · intro news ys I oI C oC D m₂ h3 tk3 Q' E' K3 hC F3 N3 off ne hcall
    have hcell3 := sub_3 N3 _ (K3 _ hc1 (fun e => S1.kt (List.mem_singleton.mp e)))
    k_steps
    exact Mark.un hcall
  · intro qs nw3 hl K3 T3 hq
    unfold LCg.FinE
    intro D h3 tk3 F3 N3 o3
    have S3 := (S1k _ _ K3 T3).sub (sub_1 N3)
    have hDs : @Ne Nat D sl := by
      refine hide_goal fun kHide => ?_
      obtain ⟨_, _, sv3, n3', _, _, _, _, ml3, _⟩ := (S1k _ _ K3 T3).La.ex
      refine kHide ?_
      clear kHide
      exact Ne.symm (off1_mem o3 _ ml3)
    have hq3 : LitsIn _ qs := hq.ups (Tups.of_sub (sub_1 N3))
    have hc3 := S3.cell
    have hD3 := mem_1 N3
    dsimp only
    k_steps
    refine Mark.un (take_N ⟨by assumption, by assumption, by assumption⟩ ⟨rfl, rfl, by k_room, by k_room, rfl, rfl⟩ (by assumption) N3 S3.T hi hn (by first | (with_reducible first | assumption | exact u_1 | exact u_2 | exact u_3 | exact i_0 | exact i_1 | exact i_2 | exact n_le | exact sub0 | exact c_0 | exact c_lo | exact c_le | exact c_lt | exact c_pos | exact n_s1 | exact n_eq | exact p_1 | exact p_1_1 | exact p_1_4 | exact q_1 | exact q_1_1 | exact q_1_4 | exact r_1_5 | exact s_1_5) | decide | omega) (by first | (with_reducible first | assumption | exact u_1 | exact u_2 | exact u_3 | exact i_0 | exact i_1 | exact i_2 | exact n_le | exact sub0 | exact c_0 | exact c_lo | exact c_le | exact c_lt | exact c_pos | exact n_s1 | exact n_eq | exact p_1 | exact p_1_1 | exact p_1_4 | exact q_1 | exact q_1_1 | exact q_1_4 | exact r_1_5 | exact s_1_5) | decide | omega) (by first | (with_reducible first | assumption | exact u_1 | exact u_2 | exact u_3 | exact i_0 | exact i_1 | exact i_2 | exact n_le | exact sub0 | exact c_0 | exact c_lo | exact c_le | exact c_lt | exact c_pos | exact n_s1 | exact n_eq | exact p_1 | exact p_1_1 | exact p_1_4 | exact q_1 | exact q_1_1 | exact q_1_4 | exact r_1_5 | exact s_1_5) | decide | omega) (by first | (with_reducible first | assumption | exact u_1 | exact u_2 | exact u_3 | exact i_0 | exact i_1 | exact i_2 | exact n_le | exact sub0 | exact c_0 | exact c_lo | exact c_le | exact c_lt | exact c_pos | exact n_s1 | exact n_eq | exact p_1 | exact p_1_1 | exact p_1_4 | exact q_1 | exact q_1_1 | exact q_1_4 | exact r_1_5 | exact s_1_5) | decide | omega) ?_)
    intro n2 t2 h4 tk4 nw4 q2 q3 F4 N4 T4 K4
    have S4 := S3.tape N3 K4 T4
    have hc4 := S4.cell
    have hD4 := keep_list S3.T N3 K4 hD3
    have hq4 := hq3.ups (tape_keep_tups S3.T N3 K4)
    have hn2 : n2 = 1 ∨ n2 = 0 := by omega
    rcases hn2 with rfl | rfl
    · dsimp only
      k_steps
      rename News _ _ _ (_ :: nw4) => kN5
      have S5 := S4.sub (sub_1 kN5)
      have hD5 := sub_1 kN5 _ hD4
      have hq5 : LitsIn _ qs := hq4.ups (Tups.of_sub (sub_1 kN5))
      refine Mark.un (lit_N ⟨by assumption, by assumption, by assumption⟩ ⟨rfl, rfl, by k_room, by k_room, rfl, rfl⟩ (by assumption) kN5 S5.T hi hn (by first | (with_reducible first | assumption | exact u_1 | exact u_2 | exact u_3 | exact i_0 | exact i_1 | exact i_2 | exact n_le | exact sub0 | exact c_0 | exact c_lo | exact c_le | exact c_lt | exact c_pos | exact n_s1 | exact n_eq | exact p_1 | exact p_1_1 | exact p_1_4 | exact q_1 | exact q_1_1 | exact q_1_4 | exact r_1_5 | exact s_1_5) | decide | omega) (by first | (with_reducible first | assumption | exact u_1 | exact u_2 | exact u_3 | exact i_0 | exact i_1 | exact i_2 | exact n_le | exact sub0 | exact c_0 | exact c_lo | exact c_le | exact c_lt | exact c_pos | exact n_s1 | exact n_eq | exact p_1 | exact p_1_1 | exact p_1_4 | exact q_1 | exact q_1_1 | exact q_1_4 | exact r_1_5 | exact s_1_5) | decide | omega) ?_)
      intro r6 l6 h6 tk6 nw6 b1 b2 b3 b4 b5 F6 N6 T6 K6 lit6 lt6
      have S6 := S5.tape kN5 K6 T6
      have hc6 := S6.cell
      have hD6 := keep_list S5.T kN5 K6 hD5
      have hq6 := hq5.ups (tape_keep_tups S5.T kN5 K6)
      dsimp only
      k_steps
      refine Mark.un (take_N ⟨by assumption, by assumption, by assumption⟩ ⟨rfl, rfl, by k_room, by k_room, rfl, rfl⟩ (by assumption) N6 S6.T hi hn (by first | (with_reducible first | assumption | exact u_1 | exact u_2 | exact u_3 | exact i_0 | exact i_1 | exact i_2 | exact n_le | exact sub0 | exact c_0 | exact c_lo | exact c_le | exact c_lt | exact c_pos | exact n_s1 | exact n_eq | exact p_1 | exact p_1_1 | exact p_1_4 | exact q_1 | exact q_1_1 | exact q_1_4 | exact r_1_5 | exact s_1_5) | decide | omega) (by first | (with_reducible first | assumption | exact u_1 | exact u_2 | exact u_3 | exact i_0 | exact i_1 | exact i_2 | exact n_le | exact sub0 | exact c_0 | exact c_lo | exact c_le | exact c_lt | exact c_pos | exact n_s1 | exact n_eq | exact p_1 | exact p_1_1 | exact p_1_4 | exact q_1 | exact q_1_1 | exact q_1_4 | exact r_1_5 | exact s_1_5) | decide | omega) (by first | (with_reducible first | assumption | exact u_1 | exact u_2 | exact u_3 | exact i_0 | exact i_1 | exact i_2 | exact n_le | exact sub0 | exact c_0 | exact c_lo | exact c_le | exact c_lt | exact c_pos | exact n_s1 | exact n_eq | exact p_1 | exact p_1_1 | exact p_1_4 | exact q_1 | exact q_1_1 | exact q_1_4 | exact r_1_5 | exact s_1_5) | decide | omega) (by first | (with_reducible first | assumption | exact u_1 | exact u_2 | exact u_3 | exact i_0 | exact i_1 | exact i_2 | exact n_le | exact sub0 | exact c_0 | exact c_lo | exact c_le | exact c_lt | exact c_pos | exact n_s1 | exact n_eq | exact p_1 | exact p_1_1 | exact p_1_4 | exact q_1 | exact q_1_1 | exact q_1_4 | exact r_1_5 | exact s_1_5) | decide | omega) ?_)
      intro n7 t7 h7 tk7 nw7 e1 e2 F7 N7 T7 K7
      have S7 := S6.tape N6 K7 T7
      have hc7 := S7.cell
      have hD7 := keep_list S6.T N6 K7 hD6
      have tu7 := tape_keep_tups S6.T N6 K7
      have hq7 := hq6.ups tu7
      have hl7 := lit6.ups tu7
      have hcp7 := S7.cp
      dsimp only
      k_steps
      refine Mark.un (len_led N7 S7.cp (by rw [List.size_toArray, hst.length, sizeLine_eq]; first | (with_reducible first | assumption | exact u_1 | exact u_2 | exact u_3 | exact i_0 | exact i_1 | exact i_2 | exact n_le | exact sub0 | exact c_0 | exact c_lo | exact c_le | exact c_lt | exact c_pos | exact n_s1 | exact n_eq | exact p_1 | exact p_1_1 | exact p_1_4 | exact q_1 | exact q_1_1 | exact q_1_4 | exact r_1_5 | exact s_1_5) | decide | omega) fun t8 tk8 => ?_)
      rw [List.size_toArray, hst.length]
      dsimp only
      k_steps
      rename News _ _ _ (_ :: nw7) => kN8
      have S8 := S7.sub (sub_1 kN8)
      have hD8 := sub_1 kN8 _ hD7
      have hq8 : LitsIn _ qs := hq7.ups (Tups.of_sub (sub_1 kN8))
      have hl8 : LitIn _ l6 r6 := hl7.ups (Tups.of_sub (sub_1 kN8))
      refine hide_goal fun kHide => ?_
      obtain ⟨u1, u2, sv8, n8, po8, xs8, ml1, ml2, ml3, _⟩ := S8.La.ex
      refine kHide ?_
      clear kHide
      k_steps
      refine Mark.un (kde_tupleOf (zs := refs qs) (by assumption) kN8 (kN8.isList (d := none) (sl := #[]) hD8) (by simp only [refs, List.size_toArray, List.length_map]; first | (with_reducible first | assumption | exact u_1 | exact u_2 | exact u_3 | exact i_0 | exact i_1 | exact i_2 | exact n_le | exact sub0 | exact c_0 | exact c_lo | exact c_le | exact c_lt | exact c_pos | exact n_s1 | exact n_eq | exact p_1 | exact p_1_1 | exact p_1_4 | exact q_1 | exact q_1_1 | exact q_1_4 | exact r_1_5 | exact s_1_5) | decide | omega) rfl ?_)
      intro D9 h9 F9 N9 l9
      have S9 := S8.sub (sub_1 N9)
      have hD9 := sub_1 N9 _ hD8
      have hq9 : LitsIn _ qs := hq8.ups (Tups.of_sub (sub_1 N9))
      have hl9 : LitIn _ l6 r6 := hl8.ups (Tups.of_sub (sub_1 N9))
      have hr9 := mem_1 N9
      dsimp only
      k_steps
      refine Mark.un (clash_N (qs := qs) ⟨by assumption, by assumption, by assumption⟩ ⟨rfl, rfl, by k_room, by k_room, rfl, rfl⟩ F9 N9 S9.La (by first | (with_reducible first | assumption | exact u_1 | exact u_2 | exact u_3 | exact i_0 | exact i_1 | exact i_2 | exact n_le | exact sub0 | exact c_0 | exact c_lo | exact c_le | exact c_lt | exact c_pos | exact n_s1 | exact n_eq | exact p_1 | exact p_1_1 | exact p_1_4 | exact q_1 | exact q_1_1 | exact q_1_4 | exact r_1_5 | exact s_1_5) | decide | omega) e1 hr9 hq9 (by first | (with_reducible first | assumption | exact u_1 | exact u_2 | exact u_3 | exact i_0 | exact i_1 | exact i_2 | exact n_le | exact sub0 | exact c_0 | exact c_lo | exact c_le | exact c_lt | exact c_pos | exact n_s1 | exact n_eq | exact p_1 | exact p_1_1 | exact p_1_4 | exact q_1 | exact q_1_1 | exact q_1_4 | exact r_1_5 | exact s_1_5) | decide | omega) ?_)
      intro i st' t10 h10 tk10 d10 nw10 hs F10 N10 L10 K10
      have T10 := S9.T.log S9.La ap N9 K10
      have tu10 := S9.La.tups N9 K10
      have cp10 := S9.La.keep N9 K10 S9.cp hcs (by intro es ep e; cases e)
      have hD10 := S9.La.keep N9 K10 hD9 hDs (by intro es ep e; cases e)
      have hq10 : LitsIn _ qs := hq9.ups tu10
      have hl10 : LitIn _ l6 r6 := hl9.ups tu10
      have hst10 := S9.st.ups tu10
      refine hide_goal fun kHide => ?_
      obtain ⟨hilt, ⟨xs10, hx10, hxc10⟩, htk10, hor10⟩ := statedR_len hs e1
      obtain ⟨v1, v2, sv10, n10, po10, xs10', mm1, mm2, mm3, _, _, _, hst10', _⟩ := L10.ex
      refine kHide ?_
      clear kHide
      have hl10' := hst10'.length
      have hle10 : st.length ≤ st'.length ∧ st'.length ≤ st.length + 1 := by rcases hor10 with q | q <;> rw [q] <;> simp
      dsimp only
      k_steps
      rename News _ _ _ _ => kN10
      refine Mark.un (len_led kN10 mm3 (by rw [List.size_toArray, hl10', sizeLine_eq]; rcases hor10 with q | q <;> rw [q] <;> (try simp) <;> omega) fun t11 tk11 => ?_)
      rw [List.size_toArray, hl10']
      dsimp only
      k_steps
      refine Mark.un (slice_any (by assumption) kN10 (kN10.isList (d := none) (sl := #[]) mm3) .none (.int _ _) ?_ (by with_unfolding_all rfl) (by rw [List.size_toArray, hl10', sizeLine_eq]; first | (with_reducible first | assumption | exact u_1 | exact u_2 | exact u_3 | exact i_0 | exact i_1 | exact i_2 | exact n_le | exact sub0 | exact c_0 | exact c_lo | exact c_le | exact c_lt | exact c_pos | exact n_s1 | exact n_eq | exact p_1 | exact p_1_1 | exact p_1_4 | exact q_1 | exact q_1_1 | exact q_1_4 | exact r_1_5 | exact s_1_5) | decide | omega))
      intro D12 h12 F12 N12
      rw [slice_upto (by rw [hl10']; first | (with_reducible first | assumption | exact u_1 | exact u_2 | exact u_3 | exact i_0 | exact i_1 | exact i_2 | exact n_le | exact sub0 | exact c_0 | exact c_lo | exact c_le | exact c_lt | exact c_pos | exact n_s1 | exact n_eq | exact p_1 | exact p_1_1 | exact p_1_4 | exact q_1 | exact q_1_1 | exact q_1_4 | exact r_1_5 | exact s_1_5) | decide | omega)] at N12
      dsimp only
      k_steps
      have hst12 := (hst10'.take st.length)
      rw [htk10] at hst12
      refine Mark.un (ne_dat N12 (.list (mem_1 N12) (hst12.mono (sub_1 N12)).dat) (.list (sub_1 N12 _ cp10) (hst10.mono (sub_1 N12)).dat) (steps_ok hok) (steps_ok hok) (by k_room) (fun _ => ?_) (fun he => absurd rfl he))
      have nm1 := sub_1 N12 _ mm1
      have nm2 := sub_1 N12 _ mm2
      have nm3 := sub_1 N12 _ mm3
      (try dsimp only)
      k_steps
      refine Mark.un (listAt N12 nm3 (by first | (with_reducible first | assumption | exact u_1 | exact u_2 | exact u_3 | exact i_0 | exact i_1 | exact i_2 | exact n_le | exact sub0 | exact c_0 | exact c_lo | exact c_le | exact c_lt | exact c_pos | exact n_s1 | exact n_eq | exact p_1 | exact p_1_1 | exact p_1_4 | exact q_1 | exact q_1_1 | exact q_1_4 | exact r_1_5 | exact s_1_5) | decide | omega) (by rw [List.size_toArray, hl10']; first | (with_reducible first | assumption | exact u_1 | exact u_2 | exact u_3 | exact i_0 | exact i_1 | exact i_2 | exact n_le | exact sub0 | exact c_0 | exact c_lo | exact c_le | exact c_lt | exact c_pos | exact n_s1 | exact n_eq | exact p_1 | exact p_1_1 | exact p_1_4 | exact q_1 | exact q_1_1 | exact q_1_4 | exact r_1_5 | exact s_1_5) | decide | omega) (by first | (with_reducible first | assumption | exact u_1 | exact u_2 | exact u_3 | exact i_0 | exact i_1 | exact i_2 | exact n_le | exact sub0 | exact c_0 | exact c_lo | exact c_le | exact c_lt | exact c_pos | exact n_s1 | exact n_eq | exact p_1 | exact p_1_1 | exact p_1_4 | exact q_1 | exact q_1_1 | exact q_1_4 | exact r_1_5 | exact s_1_5) | decide | omega) fun v hv => ?_)
      refine hide_goal fun kHide => ?_
      obtain ⟨y, hy1, ya, yk, yt, yca, ypa, ynv, rfl, y1, y2, y3, y4⟩ := hst10'.at (i := i) (by simpa using hv)
      refine kHide ?_
      clear kHide
      rw [hx10] at hy1
      cases hy1
      (try dsimp only)
      k_steps
      refine Mark.un (tupAt N12 (sub_1 N12 _ y1) (by first | (with_reducible first | assumption | exact u_1 | exact u_2 | exact u_3 | exact i_0 | exact i_1 | exact i_2 | exact n_le | exact sub0 | exact c_0 | exact c_lo | exact c_le | exact c_lt | exact c_pos | exact n_s1 | exact n_eq | exact p_1 | exact p_1_1 | exact p_1_4 | exact q_1 | exact q_1_1 | exact q_1_4 | exact r_1_5 | exact s_1_5) | decide | omega) (by simp) (by first | (with_reducible first | assumption | exact u_1 | exact u_2 | exact u_3 | exact i_0 | exact i_1 | exact i_2 | exact n_le | exact sub0 | exact c_0 | exact c_lo | exact c_le | exact c_lt | exact c_pos | exact n_s1 | exact n_eq | exact p_1 | exact p_1_1 | exact p_1_4 | exact q_1 | exact q_1_1 | exact q_1_4 | exact r_1_5 | exact s_1_5) | decide | omega) fun v' hv' => ?_)
      cases hv'
      (try dsimp only)
      k_steps
      rename News _ _ _ (_ :: _ :: nw10) => kN13
      have y2' : ClIn nw10 _ yca := hxc10 ▸ y2
      refine Mark.un (isclause_N (qs := qs) (exq := []) ⟨by assumption, by assumption, by assumption⟩ ⟨rfl, rfl, by k_room, by k_room, rfl, rfl⟩ (by assumption) kN13 (y2'.mono (sub_2 kN13)) rfl (Nat.le_trans (norm_len _) (by simp; first | (with_reducible first | assumption | exact u_1 | exact u_2 | exact u_3 | exact i_0 | exact i_1 | exact i_2 | exact n_le | exact sub0 | exact c_0 | exact c_lo | exact c_le | exact c_lt | exact c_pos | exact n_s1 | exact n_eq | exact p_1 | exact p_1_1 | exact p_1_4 | exact q_1 | exact q_1_1 | exact q_1_4 | exact r_1_5 | exact s_1_5) | decide | omega)) (sub_2 kN13 _ hD10) (mem_1 kN13) (hq10.ups (Tups.of_sub (sub_2 kN13))) (fun q hq => nomatch hq) (by first | (with_reducible first | assumption | exact u_1 | exact u_2 | exact u_3 | exact i_0 | exact i_1 | exact i_2 | exact n_le | exact sub0 | exact c_0 | exact c_lo | exact c_le | exact c_lt | exact c_pos | exact n_s1 | exact n_eq | exact p_1 | exact p_1_1 | exact p_1_4 | exact q_1 | exact q_1_1 | exact q_1_4 | exact r_1_5 | exact s_1_5) | decide | omega) (by simp) ?_)
      intro h14 tk14 d14 nw14 F14 N14 s14
      dsimp only
      have up14 : ∀ p ∈ nw10, p ∈ nw14 := fun p hp => s14 p (sub_2 kN13 p hp)
      k_steps
      refine Mark.un (right_N ⟨by assumption, by assumption, by assumption⟩ ⟨rfl, rfl, by k_room, by k_room, rfl, rfl⟩ F14 N14 (L10.sub up14) (up14 _ cp10) (hst10.mono up14) (by first | (with_reducible first | assumption | exact u_1 | exact u_2 | exact u_3 | exact i_0 | exact i_1 | exact i_2 | exact n_le | exact sub0 | exact c_0 | exact c_lo | exact c_le | exact c_lt | exact c_pos | exact n_s1 | exact n_eq | exact p_1 | exact p_1_1 | exact p_1_4 | exact q_1 | exact q_1_1 | exact q_1_4 | exact r_1_5 | exact s_1_5) | decide | omega) hok (y2'.mono up14) (norm_ok (fun q hq' => (hq q hq').2) (ex := []) (fun q hq => nomatch hq)) (.inl ⟨i, t10, hs, rfl⟩) ?_)
      intro h15 tk15 nw15 F15 N15 s15
      dsimp only
      k_steps
      have up15 : ∀ p ∈ nw10, p ∈ nw15 := fun p hp => s15 p (up14 p hp)
      refine h st' _ _ _ _ nw15 ?_ ?_ ?_ ?_ (by assumption) (by assumption) (T10.sub up15) (L10.sub up15) (fun p hp hn => up15 p ?_)
      · rcases hor10 with q | q <;> rw [q] <;> simp
      · intro x hx
        rcases hor10 with q | q
        · exact hok x (q ▸ hx)
        · rw [q] at hx
          rcases List.mem_append.mp hx with hx | hx
          · exact hok x hx
          · rw [List.mem_singleton.mp hx]
            exact ⟨show PyData.strOk (Str.ofString "strike") = true from by decide +kernel, (norm_ok (fun q hq' => (hq q hq').2) (ex := []) (fun q hq => nomatch hq))⟩
      · first | (with_reducible first | assumption | exact u_1 | exact u_2 | exact u_3 | exact i_0 | exact i_1 | exact i_2 | exact n_le | exact sub0 | exact c_0 | exact c_lo | exact c_le | exact c_lt | exact c_pos | exact n_s1 | exact n_eq | exact p_1 | exact p_1_1 | exact p_1_4 | exact q_1 | exact q_1_1 | exact q_1_4 | exact r_1_5 | exact s_1_5) | decide | omega
      · first | (with_reducible first | assumption | exact u_1 | exact u_2 | exact u_3 | exact i_0 | exact i_1 | exact i_2 | exact n_le | exact sub0 | exact c_0 | exact c_lo | exact c_le | exact c_lt | exact c_pos | exact n_s1 | exact n_eq | exact p_1 | exact p_1_1 | exact p_1_4 | exact q_1 | exact q_1_1 | exact q_1_4 | exact r_1_5 | exact s_1_5) | decide | omega
      · have nt : p.1 ∉ [tp] := fun e => hn (by rw [List.mem_singleton.mp e]; exact List.Mem.head _)
        exact K10 p (List.Mem.tail _ (List.Mem.tail _ (K7 p (K6 p (List.Mem.tail _ (K4 p (List.Mem.tail _ (K3 p (K1 p (List.Mem.tail _ hp) nt) nt)) nt)) nt) nt))) fun e => hn (List.Mem.tail _ e)
    · dsimp only
      k_steps
      rename News _ _ _ (_ :: nw4) => kN5
      have S5 := S4.sub (sub_1 kN5)
      have hD5 := sub_1 kN5 _ hD4
      have hq5 : LitsIn _ qs := hq4.ups (Tups.of_sub (sub_1 kN5))
      refine Mark.un (lit_N ⟨by assumption, by assumption, by assumption⟩ ⟨rfl, rfl, by k_room, by k_room, rfl, rfl⟩ (by assumption) kN5 S5.T hi hn (by first | (with_reducible first | assumption | exact u_1 | exact u_2 | exact u_3 | exact i_0 | exact i_1 | exact i_2 | exact n_le | exact sub0 | exact c_0 | exact c_lo | exact c_le | exact c_lt | exact c_pos | exact n_s1 | exact n_eq | exact p_1 | exact p_1_1 | exact p_1_4 | exact q_1 | exact q_1_1 | exact q_1_4 | exact r_1_5 | exact s_1_5) | decide | omega) (by first | (with_reducible first | assumption | exact u_1 | exact u_2 | exact u_3 | exact i_0 | exact i_1 | exact i_2 | exact n_le | exact sub0 | exact c_0 | exact c_lo | exact c_le | exact c_lt | exact c_pos | exact n_s1 | exact n_eq | exact p_1 | exact p_1_1 | exact p_1_4 | exact q_1 | exact q_1_1 | exact q_1_4 | exact r_1_5 | exact s_1_5) | decide | omega) ?_)
      intro r6 l6 h6 tk6 nw6 b1 b2 b3 b4 b5 F6 N6 T6 K6 lit6 lt6
      have S6 := S5.tape kN5 K6 T6
      have hc6 := S6.cell
      have hD6 := keep_list S5.T kN5 K6 hD5
      have hq6 := hq5.ups (tape_keep_tups S5.T kN5 K6)
      dsimp only
      k_steps
      refine Mark.un (take_N ⟨by assumption, by assumption, by assumption⟩ ⟨rfl, rfl, by k_room, by k_room, rfl, rfl⟩ (by assumption) N6 S6.T hi hn (by first | (with_reducible first | assumption | exact u_1 | exact u_2 | exact u_3 | exact i_0 | exact i_1 | exact i_2 | exact n_le | exact sub0 | exact c_0 | exact c_lo | exact c_le | exact c_lt | exact c_pos | exact n_s1 | exact n_eq | exact p_1 | exact p_1_1 | exact p_1_4 | exact q_1 | exact q_1_1 | exact q_1_4 | exact r_1_5 | exact s_1_5) | decide | omega) (by first | (with_reducible first | assumption | exact u_1 | exact u_2 | exact u_3 | exact i_0 | exact i_1 | exact i_2 | exact n_le | exact sub0 | exact c_0 | exact c_lo | exact c_le | exact c_lt | exact c_pos | exact n_s1 | exact n_eq | exact p_1 | exact p_1_1 | exact p_1_4 | exact q_1 | exact q_1_1 | exact q_1_4 | exact r_1_5 | exact s_1_5) | decide | omega) (by first | (with_reducible first | assumption | exact u_1 | exact u_2 | exact u_3 | exact i_0 | exact i_1 | exact i_2 | exact n_le | exact sub0 | exact c_0 | exact c_lo | exact c_le | exact c_lt | exact c_pos | exact n_s1 | exact n_eq | exact p_1 | exact p_1_1 | exact p_1_4 | exact q_1 | exact q_1_1 | exact q_1_4 | exact r_1_5 | exact s_1_5) | decide | omega) (by first | (with_reducible first | assumption | exact u_1 | exact u_2 | exact u_3 | exact i_0 | exact i_1 | exact i_2 | exact n_le | exact sub0 | exact c_0 | exact c_lo | exact c_le | exact c_lt | exact c_pos | exact n_s1 | exact n_eq | exact p_1 | exact p_1_1 | exact p_1_4 | exact q_1 | exact q_1_1 | exact q_1_4 | exact r_1_5 | exact s_1_5) | decide | omega) ?_)
      intro n7 t7 h7 tk7 nw7 e1 e2 F7 N7 T7 K7
      have S7 := S6.tape N6 K7 T7
      have hc7 := S7.cell
      have hD7 := keep_list S6.T N6 K7 hD6
      have tu7 := tape_keep_tups S6.T N6 K7
      have hq7 := hq6.ups tu7
      have hl7 := lit6.ups tu7
      have hcp7 := S7.cp
      dsimp only
      k_steps
      refine Mark.un (len_led N7 S7.cp (by rw [List.size_toArray, hst.length, sizeLine_eq]; first | (with_reducible first | assumption | exact u_1 | exact u_2 | exact u_3 | exact i_0 | exact i_1 | exact i_2 | exact n_le | exact sub0 | exact c_0 | exact c_lo | exact c_le | exact c_lt | exact c_pos | exact n_s1 | exact n_eq | exact p_1 | exact p_1_1 | exact p_1_4 | exact q_1 | exact q_1_1 | exact q_1_4 | exact r_1_5 | exact s_1_5) | decide | omega) fun t8 tk8 => ?_)
      rw [List.size_toArray, hst.length]
      dsimp only
      k_steps
      rename News _ _ _ (_ :: nw7) => kN8
      have S8 := S7.sub (sub_1 kN8)
      have hD8 := sub_1 kN8 _ hD7
      have hq8 : LitsIn _ qs := hq7.ups (Tups.of_sub (sub_1 kN8))
      have hl8 : LitIn _ l6 r6 := hl7.ups (Tups.of_sub (sub_1 kN8))
      refine hide_goal fun kHide => ?_
      obtain ⟨u1, u2, sv8, n8, po8, xs8, ml1, ml2, ml3, _⟩ := S8.La.ex
      refine kHide ?_
      clear kHide
      k_steps
      refine Mark.un (kde_tupleOf (zs := refs qs) (by assumption) kN8 (kN8.isList (d := none) (sl := #[]) hD8) (by simp only [refs, List.size_toArray, List.length_map]; first | (with_reducible first | assumption | exact u_1 | exact u_2 | exact u_3 | exact i_0 | exact i_1 | exact i_2 | exact n_le | exact sub0 | exact c_0 | exact c_lo | exact c_le | exact c_lt | exact c_pos | exact n_s1 | exact n_eq | exact p_1 | exact p_1_1 | exact p_1_4 | exact q_1 | exact q_1_1 | exact q_1_4 | exact r_1_5 | exact s_1_5) | decide | omega) rfl ?_)
      intro D9 h9 F9 N9 l9
      have S9 := S8.sub (sub_1 N9)
      have hD9 := sub_1 N9 _ hD8
      have hq9 : LitsIn _ qs := hq8.ups (Tups.of_sub (sub_1 N9))
      have hl9 : LitIn _ l6 r6 := hl8.ups (Tups.of_sub (sub_1 N9))
      have hr9 := mem_1 N9
      dsimp only
      k_steps
      refine Mark.un (strike_N (qs := qs) (l := l6) ⟨by assumption, by assumption, by assumption⟩ ⟨rfl, rfl, by k_room, by k_room, rfl, rfl⟩ F9 N9 S9.La (by first | (with_reducible first | assumption | exact u_1 | exact u_2 | exact u_3 | exact i_0 | exact i_1 | exact i_2 | exact n_le | exact sub0 | exact c_0 | exact c_lo | exact c_le | exact c_lt | exact c_pos | exact n_s1 | exact n_eq | exact p_1 | exact p_1_1 | exact p_1_4 | exact q_1 | exact q_1_1 | exact q_1_4 | exact r_1_5 | exact s_1_5) | decide | omega) e1 hr9 hq9 (by first | (with_reducible first | assumption | exact u_1 | exact u_2 | exact u_3 | exact i_0 | exact i_1 | exact i_2 | exact n_le | exact sub0 | exact c_0 | exact c_lo | exact c_le | exact c_lt | exact c_pos | exact n_s1 | exact n_eq | exact p_1 | exact p_1_1 | exact p_1_4 | exact q_1 | exact q_1_1 | exact q_1_4 | exact r_1_5 | exact s_1_5) | decide | omega) hl9 b3 ?_)
      intro i st' t10 h10 tk10 d10 nw10 hs F10 N10 L10 K10
      have T10 := S9.T.log S9.La ap N9 K10
      have tu10 := S9.La.tups N9 K10
      have cp10 := S9.La.keep N9 K10 S9.cp hcs (by intro es ep e; cases e)
      have hD10 := S9.La.keep N9 K10 hD9 hDs (by intro es ep e; cases e)
      have hq10 : LitsIn _ qs := hq9.ups tu10
      have hl10 : LitIn _ l6 r6 := hl9.ups tu10
      have hst10 := S9.st.ups tu10
      refine hide_goal fun kHide => ?_
      obtain ⟨hilt, ⟨xs10, hx10, hxc10⟩, htk10, hor10⟩ := statedR_len hs e1
      obtain ⟨v1, v2, sv10, n10, po10, xs10', mm1, mm2, mm3, _, _, _, hst10', _⟩ := L10.ex
      refine kHide ?_
      clear kHide
      have hl10' := hst10'.length
      have hle10 : st.length ≤ st'.length ∧ st'.length ≤ st.length + 1 := by rcases hor10 with q | q <;> rw [q] <;> simp
      dsimp only
      k_steps
      rename News _ _ _ _ => kN10
      refine Mark.un (len_led kN10 mm3 (by rw [List.size_toArray, hl10', sizeLine_eq]; rcases hor10 with q | q <;> rw [q] <;> (try simp) <;> omega) fun t11 tk11 => ?_)
      rw [List.size_toArray, hl10']
      dsimp only
      k_steps
      refine Mark.un (slice_any (by assumption) kN10 (kN10.isList (d := none) (sl := #[]) mm3) .none (.int _ _) ?_ (by with_unfolding_all rfl) (by rw [List.size_toArray, hl10', sizeLine_eq]; first | (with_reducible first | assumption | exact u_1 | exact u_2 | exact u_3 | exact i_0 | exact i_1 | exact i_2 | exact n_le | exact sub0 | exact c_0 | exact c_lo | exact c_le | exact c_lt | exact c_pos | exact n_s1 | exact n_eq | exact p_1 | exact p_1_1 | exact p_1_4 | exact q_1 | exact q_1_1 | exact q_1_4 | exact r_1_5 | exact s_1_5) | decide | omega))
      intro D12 h12 F12 N12
      rw [slice_upto (by rw [hl10']; first | (with_reducible first | assumption | exact u_1 | exact u_2 | exact u_3 | exact i_0 | exact i_1 | exact i_2 | exact n_le | exact sub0 | exact c_0 | exact c_lo | exact c_le | exact c_lt | exact c_pos | exact n_s1 | exact n_eq | exact p_1 | exact p_1_1 | exact p_1_4 | exact q_1 | exact q_1_1 | exact q_1_4 | exact r_1_5 | exact s_1_5) | decide | omega)] at N12
      dsimp only
      k_steps
      have hst12 := (hst10'.take st.length)
      rw [htk10] at hst12
      refine Mark.un (ne_dat N12 (.list (mem_1 N12) (hst12.mono (sub_1 N12)).dat) (.list (sub_1 N12 _ cp10) (hst10.mono (sub_1 N12)).dat) (steps_ok hok) (steps_ok hok) (by k_room) (fun _ => ?_) (fun he => absurd rfl he))
      have nm1 := sub_1 N12 _ mm1
      have nm2 := sub_1 N12 _ mm2
      have nm3 := sub_1 N12 _ mm3
      (try dsimp only)
      k_steps
      refine Mark.un (listAt N12 nm3 (by first | (with_reducible first | assumption | exact u_1 | exact u_2 | exact u_3 | exact i_0 | exact i_1 | exact i_2 | exact n_le | exact sub0 | exact c_0 | exact c_lo | exact c_le | exact c_lt | exact c_pos | exact n_s1 | exact n_eq | exact p_1 | exact p_1_1 | exact p_1_4 | exact q_1 | exact q_1_1 | exact q_1_4 | exact r_1_5 | exact s_1_5) | decide | omega) (by rw [List.size_toArray, hl10']; first | (with_reducible first | assumption | exact u_1 | exact u_2 | exact u_3 | exact i_0 | exact i_1 | exact i_2 | exact n_le | exact sub0 | exact c_0 | exact c_lo | exact c_le | exact c_lt | exact c_pos | exact n_s1 | exact n_eq | exact p_1 | exact p_1_1 | exact p_1_4 | exact q_1 | exact q_1_1 | exact q_1_4 | exact r_1_5 | exact s_1_5) | decide | omega) (by first | (with_reducible first | assumption | exact u_1 | exact u_2 | exact u_3 | exact i_0 | exact i_1 | exact i_2 | exact n_le | exact sub0 | exact c_0 | exact c_lo | exact c_le | exact c_lt | exact c_pos | exact n_s1 | exact n_eq | exact p_1 | exact p_1_1 | exact p_1_4 | exact q_1 | exact q_1_1 | exact q_1_4 | exact r_1_5 | exact s_1_5) | decide | omega) fun v hv => ?_)
      refine hide_goal fun kHide => ?_
      obtain ⟨y, hy1, ya, yk, yt, yca, ypa, ynv, rfl, y1, y2, y3, y4⟩ := hst10'.at (i := i) (by simpa using hv)
      refine kHide ?_
      clear kHide
      rw [hx10] at hy1
      cases hy1
      (try dsimp only)
      k_steps
      refine Mark.un (tupAt N12 (sub_1 N12 _ y1) (by first | (with_reducible first | assumption | exact u_1 | exact u_2 | exact u_3 | exact i_0 | exact i_1 | exact i_2 | exact n_le | exact sub0 | exact c_0 | exact c_lo | exact c_le | exact c_lt | exact c_pos | exact n_s1 | exact n_eq | exact p_1 | exact p_1_1 | exact p_1_4 | exact q_1 | exact q_1_1 | exact q_1_4 | exact r_1_5 | exact s_1_5) | decide | omega) (by simp) (by first | (with_reducible first | assumption | exact u_1 | exact u_2 | exact u_3 | exact i_0 | exact i_1 | exact i_2 | exact n_le | exact sub0 | exact c_0 | exact c_lo | exact c_le | exact c_lt | exact c_pos | exact n_s1 | exact n_eq | exact p_1 | exact p_1_1 | exact p_1_4 | exact q_1 | exact q_1_1 | exact q_1_4 | exact r_1_5 | exact s_1_5) | decide | omega) fun v' hv' => ?_)
      cases hv'
      (try dsimp only)
      k_steps
      rename News _ _ _ (_ :: _ :: nw10) => kN13
      have y2' : ClIn nw10 _ yca := hxc10 ▸ y2
      refine Mark.un (isclause_N (qs := qs) (exq := [(l6, r6)]) ⟨by assumption, by assumption, by assumption⟩ ⟨rfl, rfl, by k_room, by k_room, rfl, rfl⟩ (by assumption) kN13 (y2'.mono (sub_2 kN13)) rfl (Nat.le_trans (norm_len _) (by simp; first | (with_reducible first | assumption | exact u_1 | exact u_2 | exact u_3 | exact i_0 | exact i_1 | exact i_2 | exact n_le | exact sub0 | exact c_0 | exact c_lo | exact c_le | exact c_lt | exact c_pos | exact n_s1 | exact n_eq | exact p_1 | exact p_1_1 | exact p_1_4 | exact q_1 | exact q_1_1 | exact q_1_4 | exact r_1_5 | exact s_1_5) | decide | omega)) (sub_2 kN13 _ hD10) (mem_1 kN13) (hq10.ups (Tups.of_sub (sub_2 kN13))) (fun q hq' => by rw [List.mem_singleton.mp hq']; exact ⟨hl10.mono (sub_2 kN13), b3⟩) (by first | (with_reducible first | assumption | exact u_1 | exact u_2 | exact u_3 | exact i_0 | exact i_1 | exact i_2 | exact n_le | exact sub0 | exact c_0 | exact c_lo | exact c_le | exact c_lt | exact c_pos | exact n_s1 | exact n_eq | exact p_1 | exact p_1_1 | exact p_1_4 | exact q_1 | exact q_1_1 | exact q_1_4 | exact r_1_5 | exact s_1_5) | decide | omega) (by simp) ?_)
      intro h14 tk14 d14 nw14 F14 N14 s14
      dsimp only
      have up14 : ∀ p ∈ nw10, p ∈ nw14 := fun p hp => s14 p (sub_2 kN13 p hp)
      k_steps
      refine Mark.un (right_N ⟨by assumption, by assumption, by assumption⟩ ⟨rfl, rfl, by k_room, by k_room, rfl, rfl⟩ F14 N14 (L10.sub up14) (up14 _ cp10) (hst10.mono up14) (by first | (with_reducible first | assumption | exact u_1 | exact u_2 | exact u_3 | exact i_0 | exact i_1 | exact i_2 | exact n_le | exact sub0 | exact c_0 | exact c_lo | exact c_le | exact c_lt | exact c_pos | exact n_s1 | exact n_eq | exact p_1 | exact p_1_1 | exact p_1_4 | exact q_1 | exact q_1_1 | exact q_1_4 | exact r_1_5 | exact s_1_5) | decide | omega) hok (y2'.mono up14) (norm_ok (fun q hq' => (hq q hq').2) (ex := [(l6, r6)]) (fun q hq' => by rw [List.mem_singleton.mp hq']; exact b3)) (.inl ⟨i, t10, hs, rfl⟩) ?_)
      intro h15 tk15 nw15 F15 N15 s15
      dsimp only
      k_steps
      have up15 : ∀ p ∈ nw10, p ∈ nw15 := fun p hp => s15 p (up14 p hp)
      refine h st' _ _ _ _ nw15 ?_ ?_ ?_ ?_ (by assumption) (by assumption) (T10.sub up15) (L10.sub up15) (fun p hp hn => up15 p ?_)
      · rcases hor10 with q | q <;> rw [q] <;> simp
      · intro x hx
        rcases hor10 with q | q
        · exact hok x (q ▸ hx)
        · rw [q] at hx
          rcases List.mem_append.mp hx with hx | hx
          · exact hok x hx
          · rw [List.mem_singleton.mp hx]
            exact ⟨show PyData.strOk (Str.ofString "strike") = true from by decide +kernel, (norm_ok (fun q hq' => (hq q hq').2) (ex := [(l6, r6)]) (fun q hq' => by rw [List.mem_singleton.mp hq']; exact b3))⟩
      · first | (with_reducible first | assumption | exact u_1 | exact u_2 | exact u_3 | exact i_0 | exact i_1 | exact i_2 | exact n_le | exact sub0 | exact c_0 | exact c_lo | exact c_le | exact c_lt | exact c_pos | exact n_s1 | exact n_eq | exact p_1 | exact p_1_1 | exact p_1_4 | exact q_1 | exact q_1_1 | exact q_1_4 | exact r_1_5 | exact s_1_5) | decide | omega
      · first | (with_reducible first | assumption | exact u_1 | exact u_2 | exact u_3 | exact i_0 | exact i_1 | exact i_2 | exact n_le | exact sub0 | exact c_0 | exact c_lo | exact c_le | exact c_lt | exact c_pos | exact n_s1 | exact n_eq | exact p_1 | exact p_1_1 | exact p_1_4 | exact q_1 | exact q_1_1 | exact q_1_4 | exact r_1_5 | exact s_1_5) | decide | omega
      · have nt : p.1 ∉ [tp] := fun e => hn (by rw [List.mem_singleton.mp e]; exact List.Mem.head _)
        exact K10 p (List.Mem.tail _ (List.Mem.tail _ (K7 p (K6 p (List.Mem.tail _ (K4 p (List.Mem.tail _ (K3 p (K1 p (List.Mem.tail _ hp) nt) nt)) nt)) nt) nt))) fun e => hn (List.Mem.tail _ e)
end
end Mine
end

section
set_option maxRecDepth 100000
set_option maxHeartbeats 2000000
open PySem PySem.W PySem.Calls PySem.Spec PyProof.Rows PyProof.Rows.LCg
namespace Mine
theorem fresh_C8 : True := by
  w_top off
  trivial
section
variable {prog : Program} {w : World} {A : Around} {E : Value → Shared → Prop} {s : Shared} {h₀ : Heap} {L : Addr} {m : Str → Option Value} {env : Env}
/-- how a turn of the loop ends -/
noncomputable def FEnd (h₀ : Heap) (L : Addr) (s : Shared) (I : Addr) (oI : Obj) (J : (Str → Option Value) → Led → Prop) (f : Flow) (s' : Shared) : Prop :=
  (f = .next ∨ f = .cont) ∧ ∃ h' tk' d' m' nw', s' = { s with heap := h', toks := tk', drawn := d' } ∧ Fr h₀ L h' m' ∧ News h₀ L h' ((I, oI) :: nw') ∧ (∀ p ∈ nw', @Ne Nat p.1 I) ∧ J m' nw'
noncomputable def SrcF (prog : Program) (w : World) (A : Around) (h₀ : Heap) (env : Env) (x : Str) (body : List Stmt) (Q : Flow → Shared → Prop) (xv : Value) (s₁ : Shared) : Prop :=
  ∃ (r : Addr) (a b : Int) (t u v : Tok) (n : Nat) (m : Str → Option Value) (nw : Led) (J : Nat → (Str → Option Value) → Led → Prop), xv = .ref r ∧ A.handled = none ∧ IsRange s₁.heap r a b 1 t u v ∧ Builtin.Range.small a b 1 = true ∧ Builtin.Range.rangeSize a b 1 = ((n : Nat) : Int) ∧
    Fr h₀ env.locals s₁.heap m ∧ News h₀ env.locals s₁.heap nw ∧ J 0 m nw ∧
    (∀ i t I oI m nw h tk d (E' : Value → Shared → Prop), i < n → J i m nw → Fr h₀ env.locals h (fun y => if y = x then some (.int (a + (i : Nat)) t) else m y) → News h₀ env.locals h ((I, oI) :: nw) → (∀ p ∈ nw, @Ne Nat p.1 I) → (oI.cls = .type "range_iterator" ∧ ∃ vs, oI.data = .fields vs) →
      wpAny (model prog w) A (execs body env) (FEnd h₀ env.locals s₁ I oI (J (i + 1))) E' { s₁ with heap := h, toks := tk, drawn := d }) ∧
    ∀ m nw h tk d, J n m nw → Fr h₀ env.locals h m → News h₀ env.locals h nw → Q .next { s₁ with heap := h, toks := tk, drawn := d }
theorem For_range_D {x : Str} {px pos : Pos} {iter : Expr} {body : List Stmt} {Q : Flow → Shared → Prop} (_F₀ : Fr h₀ env.locals s.heap m) (hx : env.kindOf x = some .local)
    (hp : (env.scope.kind == .class || (env.scope.kind == .module && env.locals != env.globals)) = false)
    (h : wpAny (model prog w) A (eval iter env) (SrcF prog w A h₀ env x body Q) E s)
    (hs : ∀ x, foldedSetIterable iter env x = pure x := by intro _; rfl) :
    wpAny (model prog w) A (exec (.For (.Name x px) iter body [] pos) env) Q E s := by
  refine wpAny_For (wpAny_mono h (fun xv s₁ h₁ => ?_) fun _ _ e => e) hs
  refine hide_goal fun kHide => ?_
  obtain ⟨r, a, b, t, u, v, n, m, nw, J, rfl, hh, hr, hsm, hn, F, N, h0, turn, fin⟩ := h₁
  refine kHide ?_
  clear kHide
  refine wpAny_pyIter_range hr hsm ?_
  have hI₀ : h₀.get? s₁.heap.objs.size = none := next_is_new F
  have hIL : env.locals ≠ s₁.heap.objs.size := Nat.ne_of_lt F.ns.lt
  generalize hI : s₁.heap.objs.size = I at hI₀ hIL
  have W := range_walks (prog := prog) (w := w) (I := I) hh a n
  have up : ∀ b o, s₁.heap.get? b = some o → (s₁.heap.push { cls := .type "range_iterator", data := .fields #[rawInt a, rawInt (Builtin.Range.rangeSize a b 1), rawInt 1] }).get? b = some o := fun _ _ e => Heap.get?_push_of_some _ e
  refine codeAny_forLoop
    (fun k s' => ∃ h' tk d i m' nw', s' = { s₁ with heap := h', toks := tk, drawn := d } ∧ i ≤ n ∧ k = n + 1 - i ∧ IsRangeIter h' I (a + (i : Nat) * 1) ((n : Int) - (i : Nat)) 1 ∧ Fr h₀ env.locals h' m' ∧ News h₀ env.locals h' nw' ∧ (∀ p ∈ nw', @Ne Nat p.1 I) ∧ J i m' nw') ?_ (n + 1)
    ⟨_, _, _, 0, m, nw, rfl, Nat.zero_le _, rfl, ?_, F.keeps fun _ _ e => Heap.get?_push_of_some _ e, N.grown fun _ _ e => Heap.get?_push_of_some _ e, fun p hp => hI ▸ Nat.ne_of_lt (Heap.lt_size (N p hp).1), h0⟩
  · rintro k s' ⟨h', tk, d, i, m', nw', rfl, hi, rfl, hst, F', N', off, hJ⟩
    by_cases hlt : i < n
    · refine W.item i _ _ _ hlt hst fun v h₂ tk₂ hP hst₂ hk₂ => ?_
      refine hide_goal fun kHide => ?_
      obtain ⟨t', rfl⟩ := hP
      refine kHide ?_
      clear kHide
      have F₂ : Fr h₀ env.locals h₂ m' := fr_but F' hk₂ hIL hI₀
      have N₂ : News h₀ env.locals h₂ nw' := news_but N' hk₂ off
      refine wpAny_assign_Name (wpAny_storeName_local hx F₂.ns (fun h₃ hn₃ hs₃ => ?_) hp)
      have hst₃ : IsRangeIter h₃ I (a + ((i + 1 : Nat) : Int) * 1) ((n : Int) - ((i + 1 : Nat) : Int)) 1 := W.frame (i + 1) _ _ hst₂ fun b hb o e => hs₃.extBut b o (fun q => hIL (by rw [← q]; exact List.mem_singleton.mp hb)) e
      obtain ⟨oI, heI, hoI, hcI⟩ : ∃ oI : Obj, h₃.get? I = some oI ∧ (∀ h : Heap, h.get? I = some oI → IsRangeIter h I (a + ((i + 1 : Nat) : Int) * 1) ((n : Int) - ((i + 1 : Nat) : Int)) 1) ∧ (oI.cls = .type "range_iterator" ∧ ∃ vs, oI.data = .fields vs) := ⟨_, hst₃, fun _ e => e, rfl, _, rfl⟩
      have F₃ := F₂.set hn₃ hs₃
      have N₃ : News h₀ env.locals h₃ ((I, oI) :: nw') := fun p hp => by
        rcases List.mem_cons.mp hp with rfl | hp
        · exact ⟨heI, Ne.symm hIL, hI₀⟩
        · exact (N₂.set hs₃) p hp
      refine wpAny_mono (turn i t' I oI m' nw' h₃ _ d _ hlt hJ F₃ N₃ off hcI) (fun f s₃ h₃ => ?_) fun _ _ e => e
      refine hide_goal fun kHide => ?_
      obtain ⟨hf, h₄, tk₄, d₄, m₄, nw₄, rfl, F₄, N₄, off₄, hJ₄⟩ := h₃
      refine kHide ?_
      clear kHide
      have done : ∃ m, m < n + 1 - i ∧ ∃ h' tk d i m' nw', ({ s₁ with heap := h₄, toks := tk₄, drawn := d₄ } : Shared) = { s₁ with heap := h', toks := tk, drawn := d } ∧ i ≤ n ∧ m = n + 1 - i ∧ IsRangeIter h' I (a + (i : Nat) * 1) ((n : Int) - (i : Nat)) 1 ∧ Fr h₀ env.locals h' m' ∧ News h₀ env.locals h' nw' ∧ (∀ p ∈ nw', @Ne Nat p.1 I) ∧ J i m' nw' :=
        ⟨n + 1 - (i + 1), by omega, h₄, tk₄, d₄, i + 1, m₄, nw₄, rfl, hlt, rfl, hoI _ (N₄ (I, oI) (List.mem_cons_self ..)).1, F₄, fun p hp => N₄ p (List.mem_cons_of_mem _ hp), off₄, hJ₄⟩
      rcases hf with rfl | rfl
      · exact done
      · exact done
    · obtain rfl : i = n := Nat.le_antisymm hi (Nat.not_lt.mp hlt)
      refine W.done _ _ _ hst fun h₂ tk₂ hk₂ => wpAny_execs_nil ?_
      exact fin m' nw' h₂ tk₂ d hJ (fr_but F' hk₂ hIL hI₀) (news_but N' hk₂ off)
  · subst hI
    show IsRangeIter _ _ _ _ _
    rw [hn]
    simpa using Heap.get?_push_size _ rfl
end
end Mine
end

section
set_option maxRecDepth 100000
set_option maxHeartbeats 2000000
open PySem PySem.W PySem.Calls PyProof.Rows
namespace Mine
theorem fresh_C9 : True := by
  w_top off
  trivial
theorem keep_ne {tp K : Addr} {o : Obj} {nw nw' : Led} (k : Keep [tp] nw nw') (hm : (K, o) ∈ nw) (ne : @Ne Nat K tp) : (K, o) ∈ nw' := k _ hm fun e => ne (List.mem_singleton.mp e)
theorem keep2 {b c K : Addr} {o : Obj} {nw nw' : Led} (k : Keep [b, c] nw nw') (hm : (K, o) ∈ nw) (n2 : @Ne Nat K b) (n3 : @Ne Nat K c) : (K, o) ∈ nw' := k _ hm fun e => by
  simp only [List.mem_cons, List.not_mem_nil, or_false] at e
  rcases e with e | e
  · exact n2 e
  · exact n3 e
theorem keep3 {a b c K : Addr} {o : Obj} {nw nw' : Led} (k : Keep [a, b, c] nw nw') (hm : (K, o) ∈ nw) (n1 : @Ne Nat K a) (n2 : @Ne Nat K b) (n3 : @Ne Nat K c) : (K, o) ∈ nw' := k _ hm fun e => by
  simp only [List.mem_cons, List.not_mem_nil, or_false] at e
  rcases e with e | e | e
  · exact n1 e
  · exact n2 e
  · exact n3 e
theorem len_vs {prog : Program} {w : World} {A : Around} {E : Value → Shared → Prop} {s : Shared} {h₀ : Heap} {L l : Addr} {vs : List Value} {n k : Nat} {nw : Led} {Q : Value → Shared → Prop} (N : News h₀ L s.heap nw) (hm : (l, listOf vs.toArray n) ∈ nw) (e : vs.length = k) (hk : k ≤ 1000) (h : ∀ t tk, Q (.int (k : Nat) t) { s with toks := tk }) :
    wpAny (model prog w) A (call (.builtin "len") [.ref l]) Q E s := by
  refine len_led N hm (by rw [List.size_toArray, e, sizeLine_eq]; omega) fun t tk => ?_
  have q : ((vs.toArray.size : Nat) : Int) = ((k : Nat) : Int) := by rw [List.size_toArray, e]
  rw [q]
  exact h t tk
theorem sub_0 {g h : Heap} {L : Addr} {l : Led} (_ : News g L h l) : ∀ p ∈ l, p ∈ l := fun _ hp => hp
theorem pos_of_ne {st : List Step} (h : Dat.list (st.map stD) ≠ Dat.list []) : 0 < st.length := by
  cases st with
  | nil => exact absurd rfl h
  | cons => exact Nat.succ_pos _
theorem map_at {m : Str → Option Value} {x : Str} {v : Option Value} (h : m x = v) : m = fun y => if y = x then v else m y := by
  funext y
  by_cases e : y = x
  · rw [if_pos e, e, h]
  · rw [if_neg e]
theorem ints_63 {ys : List Value} {ns : List Int} (_ : IntsAre ys (List.map (fun k' => k') (List.take 60 ns))) : (List.map (fun k' => k') (List.take 60 ns)).length ≤ 63 := by
  rw [List.length_map, List.length_take]
  exact Nat.le_trans (Nat.min_le_left _ _) (by decide)
theorem room_law : callerA.depth + 1 + 60 < recursionLimit ∧ callerA.units + 300 < cLine := by
  constructor
  · decide
  · decide
theorem apart_of {w : World} {lg ld sl pd tp cl : Addr} {cs : List Value} {sp : Int} {st : List Step} {nw : Led} (_ : TapeAt w tp cl cs sp nw) (_ : LogAt w lg ld sl pd st nw) (a : @Ne Nat tp pd) (b : @Ne Nat tp ld) (c : @Ne Nat cl sl) : Apart ld sl pd tp cl := ⟨a, b, c⟩
theorem places_nil {prog : Program} {w : World} {o : Obj} (h : o.IsDictOf (PySem.strKind prog w) []) : PlacesO prog w o [] := by
  refine hide_goal fun kHide => ?_
  obtain ⟨es, ep, h1, h2, _, h4, _⟩ := h
  refine kHide ?_
  clear kHide
  have e : es.toList = [] := by
    cases he : es.toList with
    | nil => rfl
    | cons x r => rw [he] at h4; cases h4
  exact ⟨es, ep, h1, h2, e, List.nodup_nil⟩
theorem mem_6 {g h : Heap} {L : Addr} {a b c d e f : Addr × Obj} {l : Led} (_ : News g L h (a :: b :: c :: d :: e :: f :: l)) : f ∈ a :: b :: c :: d :: e :: f :: l := List.Mem.tail _ (List.Mem.tail _ (List.Mem.tail _ (List.Mem.tail _ (List.Mem.tail _ (List.Mem.head _)))))
theorem mem_8 {g h : Heap} {L : Addr} {a b c d e f i j : Addr × Obj} {l : Led} (_ : News g L h (a :: b :: c :: d :: e :: f :: i :: j :: l)) : j ∈ a :: b :: c :: d :: e :: f :: i :: j :: l := List.Mem.tail _ (List.Mem.tail _ (List.Mem.tail _ (List.Mem.tail _ (List.Mem.tail _ (List.Mem.tail _ (List.Mem.tail _ (List.Mem.head _)))))))
theorem mem_9 {g h : Heap} {L : Addr} {a b c d e f i j k : Addr × Obj} {l : Led} (_ : News g L h (a :: b :: c :: d :: e :: f :: i :: j :: k :: l)) : k ∈ a :: b :: c :: d :: e :: f :: i :: j :: k :: l := List.Mem.tail _ (List.Mem.tail _ (List.Mem.tail _ (List.Mem.tail _ (List.Mem.tail _ (List.Mem.tail _ (List.Mem.tail _ (List.Mem.tail _ (List.Mem.head _))))))))
theorem mem_10 {g h : Heap} {L : Addr} {a b c d e f i j k n : Addr × Obj} {l : Led} (_ : News g L h (a :: b :: c :: d :: e :: f :: i :: j :: k :: n :: l)) : n ∈ a :: b :: c :: d :: e :: f :: i :: j :: k :: n :: l := List.Mem.tail _ (List.Mem.tail _ (List.Mem.tail _ (List.Mem.tail _ (List.Mem.tail _ (List.Mem.tail _ (List.Mem.tail _ (List.Mem.tail _ (List.Mem.tail _ (List.Mem.head _)))))))))
theorem LitIn.seq {nw nw' : Led} {l : Lit} {a : Addr} (h : LitIn nw l a) (k : Seqs nw nw') : LitIn nw' l a := let ⟨n, t1, t2, t3, q⟩ := h; ⟨n, t1, t2, t3, k _ q ⟨_, _, rfl⟩⟩
theorem ClIn.seq {nw nw' : Led} {c : Clause} {a : Addr} (h : ClIn nw c a) (k : Seqs nw nw') : ClIn nw' c a := let ⟨qs, n, q, e, l⟩ := h; ⟨qs, n, k _ q ⟨_, _, rfl⟩, e, fun q hq => (l q hq).seq k⟩
theorem IntsT.seq {nw nw' : Led} {xs : List Int} {a : Addr} (h : IntsT nw xs a) (k : Seqs nw nw') : IntsT nw' xs a := let ⟨vs, n, q, e⟩ := h; ⟨vs, n, k _ q ⟨_, _, rfl⟩, e⟩
theorem NoIn.seq {nw nw' : Led} (k : Seqs nw nw') : ∀ {o : Note} {v : Value}, NoIn nw o v → NoIn nw' o v
  | .none, _, h => h
  | .int _, _, h => h
  | .ints _, _, ⟨a, e, h⟩ => ⟨a, e, h.seq k⟩
theorem StIn.seq {nw nw' : Led} {s : Step} {v : Value} (h : StIn nw s v) (u : Seqs nw nw') : StIn nw' s v := by
  refine hide_goal fun kHide => ?_
  obtain ⟨a, k, t, ca, pa, nv, e, h1, h2, h3, h4⟩ := h
  refine kHide ?_
  clear kHide
  exact ⟨a, k, t, ca, pa, nv, e, u _ h1 ⟨_, _, rfl⟩, h2.seq u, h3.seq u, h4.seq u⟩
theorem StAll.seq {nw nw' : Led} (u : Seqs nw nw') : ∀ {ss : List Step} {vs : List Value}, StAll nw ss vs → StAll nw' ss vs
  | [], [], _ => trivial
  | _ :: _, _ :: _, h => ⟨h.1.seq u, StAll.seq u h.2⟩
  | [], _ :: _, h => h.elim
  | _ :: _, [], h => h.elim
section
variable {w : World} {nw : Led}
/-- what stands apart -/
structure Far (ld sl pd tp cl K1 K2 I : Addr) : Prop where
  ap : Apart ld sl pd tp cl
  a : @Ne Nat K1 tp ∧ @Ne Nat K1 sl ∧ @Ne Nat K1 pd
  b : @Ne Nat K2 tp ∧ @Ne Nat K2 sl ∧ @Ne Nat K2 pd
  c : @Ne Nat K1 K2
  i : @Ne Nat I tp ∧ @Ne Nat I sl ∧ @Ne Nat I pd ∧ @Ne Nat I K2
/-- what a turn stands on -/
structure TS (w : World) (lg ld sl pd tp cl K1 K2 I : Addr) (o1 oI : Obj) (cs : List Value) (sp : Int) (st : List Step) (nw : Led) : Prop where
  T : TapeAt w tp cl cs sp nw
  La : LogAt w lg ld sl pd st nw
  far : Far ld sl pd tp cl K1 K2 I
  c1 : (K1, o1) ∈ nw
  cI : (I, oI) ∈ nw
  c2 : ∃ o2 v2, (K2, o2) ∈ nw ∧ o2.data = .cell v2
variable {lg ld sl pd tp cl K1 K2 I : Addr} {o1 oI : Obj} {cs : List Value} {sp sp' : Int} {st st' : List Step} {nw' : Led} {g h : Heap} {L : Addr}
theorem TS.sub (x : TS w lg ld sl pd tp cl K1 K2 I o1 oI cs sp st nw) (k : ∀ p ∈ nw, p ∈ nw') : TS w lg ld sl pd tp cl K1 K2 I o1 oI cs sp st nw' :=
  ⟨x.T.sub k, x.La.sub k, x.far, k _ x.c1, k _ x.cI, let ⟨o, v, q, r⟩ := x.c2; ⟨o, v, k _ q, r⟩⟩
theorem TS.tape (x : TS w lg ld sl pd tp cl K1 K2 I o1 oI cs sp st nw) (N : News g L h nw) (k : Keep [tp] nw nw') (T' : TapeAt w tp cl cs sp' nw') : TS w lg ld sl pd tp cl K1 K2 I o1 oI cs sp' st nw' :=
  ⟨T', x.La.tape x.T x.far.ap N k, x.far, keep_ne k x.c1 x.far.a.1, keep_ne k x.cI x.far.i.1, let ⟨o, v, q, r⟩ := x.c2; ⟨o, v, keep_ne k q x.far.b.1, r⟩⟩
theorem TS.log (x : TS w lg ld sl pd tp cl K1 K2 I o1 oI cs sp st nw) (N : News g L h nw) (k : Keep [sl, pd] nw nw') (L' : LogAt w lg ld sl pd st' nw') : TS w lg ld sl pd tp cl K1 K2 I o1 oI cs sp st' nw' :=
  ⟨x.T.log x.La x.far.ap N k, L', x.far, keep2 k x.c1 x.far.a.2.1 x.far.a.2.2, keep2 k x.cI x.far.i.2.1 x.far.i.2.2.1, let ⟨o, v, q, r⟩ := x.c2; ⟨o, v, keep2 k q x.far.b.2.1 x.far.b.2.2, r⟩⟩
theorem TS.all (x : TS w lg ld sl pd tp cl K1 K2 I o1 oI cs sp st nw) (k : Keep [tp, sl, pd] nw nw') (T' : TapeAt w tp cl cs sp' nw') (L' : LogAt w lg ld sl pd st' nw') : TS w lg ld sl pd tp cl K1 K2 I o1 oI cs sp' st' nw' :=
  ⟨T', L', x.far, keep3 k x.c1 x.far.a.1 x.far.a.2.1 x.far.a.2.2, keep3 k x.cI x.far.i.1 x.far.i.2.1 x.far.i.2.2.1, let ⟨o, v, q, r⟩ := x.c2; ⟨o, v, keep3 k q x.far.b.1 x.far.b.2.1 x.far.b.2.2, r⟩⟩
theorem TS.cell (x : TS w lg ld sl pd tp cl K1 K2 I o1 oI cs sp st nw) (N : News g L h nw) (k : Keep [K2] nw nw') {o' : Obj} {v' : Option Value} (hm : (K2, o') ∈ nw') (hd : o'.data = .cell v') (sq : Seqs nw nw') : TS w lg ld sl pd tp cl K1 K2 I o1 oI cs sp st nw' := by
  refine hide_goal fun kHide => ?_
  obtain ⟨o2, v2, c2, d2⟩ := x.c2
  refine kHide ?_
  clear kHide
  have ne : ∀ {a : Addr} {o : Obj}, (a, o) ∈ nw → (∀ v, o.data ≠ .cell v) → (a, o) ∈ nw' := fun {a o} hm' ho => keep_ne k hm' (N.twoPlaces hm' c2 (by
    intro e
    rw [← show o = o2 from e] at d2
    exact ho _ d2))
  refine hide_goal fun kHide => ?_
  obtain ⟨o, nc, h1, h2, h3⟩ := x.T
  obtain ⟨⟨t1, t2, sv, n, po, xs, m1, m2, m3, m4, hpl, hxs, hst, hok⟩, lo, hne⟩ := x.La
  refine kHide ?_
  clear kHide
  refine ⟨⟨o, nc, ne h1 ?_, ne h2 (by intro v e; cases e), h3⟩, ⟨⟨t1, t2, sv, n, po, xs, ne m1 (by intro v e; cases e), ne m2 (by intro v e; cases e), ne m3 (by intro v e; cases e), ne m4 ?_, hpl, fun y hy => (hxs y hy).seq sq, StAll.seq sq hst, hok⟩, lo, hne⟩, x.far, keep_ne k x.c1 x.far.c, keep_ne k x.cI x.far.i.2.2.2, ⟨o', v', hm, hd⟩⟩
  · intro v e
    refine hide_goal fun kHide => ?_
    obtain ⟨ts, es, ep, _, q, _⟩ := h3
    refine kHide ?_
    clear kHide
    rw [q] at e; cases e
  · intro v e
    refine hide_goal fun kHide => ?_
    obtain ⟨es, ep, _, q, _⟩ := hpl
    refine kHide ?_
    clear kHide
    rw [q] at e; cases e
/-- the iterator's own entry left out -/
theorem TS.drop (x : TS w lg ld sl pd tp cl K1 K2 I o1 oI cs sp st nw) (N : News g L h nw) (hI : oI.cls = .type "range_iterator" ∧ ∃ vs, oI.data = .fields vs) (hc : ∃ v, o1.data = .cell v) :
    ∃ nw', News g L h ((I, oI) :: nw') ∧ (∀ p ∈ nw', @Ne Nat p.1 I) ∧ TapeAt w tp cl cs sp nw' ∧ LogAt w lg ld sl pd st nw' ∧ (K1, o1) ∈ nw' ∧ ∃ o2 v2, (K2, o2) ∈ nw' ∧ o2.data = .cell v2 := by
  refine hide_goal fun kHide => ?_
  obtain ⟨hI1, vI, hI2⟩ := hI
  refine kHide ?_
  clear kHide
  have ne : ∀ {a : Addr} {o : Obj}, (a, o) ∈ nw → o ≠ oI → (a, o) ∈ nw.filter (fun p => decide (@Ne Nat p.1 I)) := fun {a o} hm' ho => List.mem_filter.mpr ⟨hm', decide_eq_true (N.twoPlaces hm' x.cI ho)⟩
  have sq : Seqs nw (nw.filter fun p => decide (@Ne Nat p.1 I)) := fun p hp ⟨i, n, q⟩ => ne hp (by intro e; rw [e, hI2] at q; cases q)
  refine hide_goal fun kHide => ?_
  obtain ⟨o, nc, h1, h2, h3⟩ := x.T
  obtain ⟨⟨t1, t2, sv, n, po, xs, m1, m2, m3, m4, hpl, hxs, hst, hok⟩, lo, hne⟩ := x.La
  obtain ⟨o2, v2, c2, d2⟩ := x.c2
  obtain ⟨v1, d1⟩ := hc
  refine kHide ?_
  clear kHide
  refine ⟨nw.filter fun p => decide (@Ne Nat p.1 I), fun p hp => ?_, fun p hp => of_decide_eq_true (List.mem_filter.mp hp).2, ⟨o, nc, ne h1 ?_, ne h2 ?_, h3⟩, ⟨⟨t1, t2, sv, n, po, xs, ne m1 ?_, ne m2 ?_, ne m3 ?_, ne m4 ?_, hpl, fun y hy => (hxs y hy).seq sq, StAll.seq sq hst, hok⟩, lo, hne⟩, ne x.c1 ?_, ⟨o2, v2, ne c2 ?_, d2⟩⟩
  · rcases List.mem_cons.mp hp with rfl | hp
    · exact N _ x.cI
    · exact N p (List.mem_filter.mp hp).1
  · intro e
    refine hide_goal fun kHide => ?_
    obtain ⟨ts, es, ep, _, q, _⟩ := h3
    refine kHide ?_
    clear kHide
    rw [e, hI2] at q; cases q
  · intro e; have := congrArg Obj.data e; rw [hI2] at this; cases this
  · intro e; have := congrArg Obj.cls e; rw [hI1] at this; cases this
  · intro e; have := congrArg Obj.data e; rw [hI2] at this; cases this
  · intro e; have := congrArg Obj.data e; rw [hI2] at this; cases this
  · intro e
    refine hide_goal fun kHide => ?_
    obtain ⟨es, ep, _, q, _⟩ := hpl
    refine kHide ?_
    clear kHide
    rw [e, hI2] at q; cases q
  · intro e; rw [e, hI2] at d1; cases d1
  · intro e; rw [e, hI2] at d2; cases d2
end
end Mine
end

section
set_option maxRecDepth 100000
set_option maxHeartbeats 8000000
open PySem PySem.W PySem.Calls PyProof.Rows
namespace Mine
theorem fresh_W16 : True := by
  w_top off
  trivial
/-- what the law's loop keeps -/
structure LawSt (w : World) (lg ld sl pd tp cl K1 K2 : Addr) (o1 : Obj) (cs : List Value) (i : Nat) (m : Str → Option Value) (nw : Led) : Prop where
  ex : ∃ st sp o2 v2, TapeAt w tp cl cs sp nw ∧ LogAt w lg ld sl pd st nw ∧ (K1, o1) ∈ nw ∧ (K2, o2) ∈ nw ∧ o2.data = .cell v2 ∧ st.length ≤ i ∧ (∀ x ∈ st, StOk x) ∧ 0 ≤ sp ∧ sp ≤ 10 + 30 * (i : Int)
  log : m (Str.ofString "log") = some (.ref lg)
  ap : Apart ld sl pd tp cl
  ne : (@Ne Nat K1 tp ∧ @Ne Nat K1 sl ∧ @Ne Nat K1 pd) ∧ (@Ne Nat K2 tp ∧ @Ne Nat K2 sl ∧ @Ne Nat K2 pd) ∧ @Ne Nat K1 K2
theorem statedR_ok {st st' : List Step} {c : Clause} {sp : Int} {i : Nat} (h : statedR st c sp = some (i, st')) (hok : ∀ x ∈ st, StOk x) (hc : ClOk c) : st'.length ≤ st.length + 1 ∧ ∀ x ∈ st', StOk x := by
  unfold statedR at h
  split at h
  · cases h; exact ⟨Nat.le_succ _, hok⟩
  · split at h
    · split at h
      · cases h
        refine ⟨by simp, fun x hx => ?_⟩
        rcases List.mem_append.mp hx with hx | hx
        · exact hok x hx
        · rw [List.mem_singleton.mp hx]; exact ⟨show PyData.strOk (Str.ofString "nogood") = true from by decide +kernel, fun l hl => nomatch hl⟩
      · cases h
    · cases h
      refine ⟨by simp, fun x hx => ?_⟩
      rcases List.mem_append.mp hx with hx | hx
      · exact hok x hx
      · rw [List.mem_singleton.mp hx]; exact ⟨show PyData.strOk (Str.ofString "strike") = true from by decide +kernel, hc⟩
theorem fend_of {w : World} {lg ld sl pd tp cl K1 K2 I : Addr} {o1 oI : Obj} {cs : List Value} {sp : Int} {st : List Step} {nw : Led} {h₀ h : Heap} {L : Addr} {m : Str → Option Value} {i : Nat} {f : Flow} {s : Shared} {tk : Nat} {d : Drawn}
    (S : TS w lg ld sl pd tp cl K1 K2 I o1 oI cs sp st nw) (N : News h₀ L h nw) (F : Fr h₀ L h m) (hm : m (Str.ofString "log") = some (.ref lg)) (hlen : st.length ≤ i + 1) (hok : ∀ x ∈ st, StOk x) (h0 : 0 ≤ sp) (h1 : sp ≤ 10 + 30 * ((i + 1 : Nat) : Int))
    (hI : oI.cls = .type "range_iterator" ∧ ∃ vs, oI.data = .fields vs) (hc : ∃ v, o1.data = .cell v) (hf : f = .next ∨ f = .cont) : FEnd h₀ L s I oI (fun m nw => LawSt w lg ld sl pd tp cl K1 K2 o1 cs (i + 1) m nw) f { s with heap := h, toks := tk, drawn := d } := by
  refine hide_goal fun kHide => ?_
  obtain ⟨nw', N', off, T', L', c1, o2, v2, c2, d2⟩ := S.drop N hI hc
  refine kHide ?_
  clear kHide
  exact ⟨hf, h, tk, d, m, nw', rfl, F, N', off, ⟨⟨st, sp, o2, v2, T', L', c1, c2, d2, hlen, hok, h0, h1⟩, hm, S.far.ap, S.far.a, S.far.b, S.far.c⟩⟩
section
local macro_rules | `(tactic| walk_at "call ref") => `(tactic| (k_here; (first | (with_reducible show wpAny _ _ (call (Value.ref 160) _) _ _ _) | (with_reducible show wpAny _ _ (call (Value.ref 199) _) _ _ _) | (with_reducible show wpAny _ _ (call (Value.ref 182) _) _ _ _) | (with_reducible show wpAny _ _ (call (Value.ref 187) _) _ _ _) | (with_reducible show wpAny _ _ (call (Value.ref 194) _) _ _ _) | (with_reducible show wpAny _ _ (call (Value.ref 132) _) _ _ _) | (with_reducible show wpAny _ _ (call (Value.ref 139) _) _ _ _) | (with_reducible show wpAny _ _ (call (Value.ref 146) _) _ _ _)); refine Mark.go ?_))
local macro_rules | `(tactic| walk_at "call type:list") => `(tactic| (k_here; refine Mark.go ?_))
local macro_rules | `(tactic| k_mem) => `(tactic| assumption)
local macro_rules | `(tactic| walk_at "exec For Name Call cons nil") => `(tactic| (k_here; refine Mark.go ?_))
local macro_rules | `(tactic| walk_at "call type:tuple") => `(tactic| (k_here; (with_reducible show wpAny _ _ (call (Value.type _) [Value.ref _]) _ _ _); refine Mark.go ?_))
local macro_rules | `(tactic| walk_at "compareOp NotEq ref ref") => `(tactic| (k_here; refine Mark.go ?_))
local macro_rules | `(tactic| walk_at "subscriptTail") => `(tactic| (k_here; (with_reducible show wpAny _ _ (subscriptTail _ _ (Value.ref _) (Value.int _ _)) _ _ _); (with_reducible rename LogAt _ _ _ _ _ (_ ++ _) _ => kq); refine Mark.go ?_))
local macro_rules | `(tactic| walk_at "call builtin:len") => `(tactic| (k_here; (with_reducible show wpAny _ _ (call (Value.builtin _) [Value.ref _]) _ _ _); refine Mark.go ?_))
local macro_rules | `(tactic| walk_at "eval ListComp") => `(tactic| (k_here; (with_reducible show wpAny _ _ (eval (PySem.Expr.ListComp (PySem.Expr.Call (PySem.Expr.Name (PySem.Str.ofString "_law_take") _) _ _ _) _ _ _) _) _ _ _); refine Mark.go ?_))
local macro_rules | `(tactic| walk_at "CompSrc") => `(tactic| (k_here; (with_reducible show LCg.CompSrc _ _ _ _ _ _ _ (PySem.Expr.Call (PySem.Expr.Name (PySem.Str.ofString "_law_take") _) _ _ _) _ _ _ _ _ _); refine Mark.go ?_))
theorem law_row.tw1021517089118291943 : True := trivial
theorem law_row.tw10266346430894735476 : True := trivial
theorem law_row.tw10297060816230117805 : True := trivial
theorem law_row.tw10352160679223942763 : True := trivial
theorem law_row.tw10439914387887911228 : True := trivial
theorem law_row.tw1048747906113056812 : True := trivial
theorem law_row.tw10498358956789405810 : True := trivial
theorem law_row.tw10521645057226108097 : True := trivial
theorem law_row.tw10604675637276462633 : True := trivial
theorem law_row.tw10719526819871823272 : True := trivial
theorem law_row.tw1088611789265056813 : True := trivial
theorem law_row.tw1103300636198876907 : True := trivial
theorem law_row.tw11077081091417396482 : True := trivial
theorem law_row.tw11083895738868776649 : True := trivial
theorem law_row.tw11090898360969756203 : True := trivial
theorem law_row.tw11093532191310094746 : True := trivial
theorem law_row.tw11152323666643135641 : True := trivial
theorem law_row.tw11236133152074234337 : True := trivial
theorem law_row.tw11287993690029469874 : True := trivial
theorem law_row.tw1132403816833044729 : True := trivial
theorem law_row.tw11366406671311929772 : True := trivial
theorem law_row.tw11381679273542577543 : True := trivial
theorem law_row.tw11487976396201657244 : True := trivial
theorem law_row.tw11551826945399774297 : True := trivial
theorem law_row.tw1163484669861417944 : True := trivial
theorem law_row.tw11946838019585121787 : True := trivial
theorem law_row.tw11959182911856336997 : True := trivial
theorem law_row.tw11992866949718626955 : True := trivial
theorem law_row.tw1226819430969769094 : True := trivial
theorem law_row.tw12326895939823780505 : True := trivial
theorem law_row.tw12364156748090827131 : True := trivial
theorem law_row.tw1251716566276868273 : True := trivial
theorem law_row.tw12586683606046907468 : True := trivial
theorem law_row.tw12598444168573371636 : True := trivial
theorem law_row.tw12620799936494905054 : True := trivial
theorem law_row.tw12664467854622134212 : True := trivial
theorem law_row.tw13060084609948031205 : True := trivial
theorem law_row.tw13223404807731461856 : True := trivial
theorem law_row.tw13380631095713570750 : True := trivial
theorem law_row.tw13601243656643128110 : True := trivial
theorem law_row.tw1363420626123377347 : True := trivial
theorem law_row.tw13657580712413826546 : True := trivial
theorem law_row.tw13760707594744040019 : True := trivial
theorem law_row.tw13814444267142166346 : True := trivial
theorem law_row.tw13993557819054720437 : True := trivial
theorem law_row.tw14117505563838367684 : True := trivial
theorem law_row.tw14294623465722252160 : True := trivial
theorem law_row.tw1444288035582563891 : True := trivial
theorem law_row.tw14448466439448783011 : True := trivial
theorem law_row.tw14640417364951620063 : True := trivial
theorem law_row.tw14675227493907462432 : True := trivial
theorem law_row.tw14687307667128316120 : True := trivial
theorem law_row.tw14775736300876132216 : True := trivial
theorem law_row.tw14827522588483930206 : True := trivial
theorem law_row.tw14919185927537123328 : True := trivial
theorem law_row.tw15239390722415521120 : True := trivial
theorem law_row.tw15276514668472556177 : True := trivial
theorem law_row.tw15278998953641328879 : True := trivial
theorem law_row.tw15400889120792087882 : True := trivial
theorem law_row.tw15435612273648077060 : True := trivial
theorem law_row.tw15572348959921012618 : True := trivial
theorem law_row.tw15766064126044378770 : True := trivial
theorem law_row.tw15850495527038268123 : True := trivial
theorem law_row.tw15914113145802478463 : True := trivial
theorem law_row.tw15941762781803384358 : True := trivial
theorem law_row.tw15992984998518746325 : True := trivial
theorem law_row.tw16027402805869512827 : True := trivial
theorem law_row.tw16062285430940855488 : True := trivial
theorem law_row.tw16120093085959801641 : True := trivial
theorem law_row.tw16155507843003125769 : True := trivial
theorem law_row.tw16227316380946207964 : True := trivial
theorem law_row.tw1626755991327786305 : True := trivial
theorem law_row.tw16317175726842961355 : True := trivial
theorem law_row.tw16446461366732731446 : True := trivial
theorem law_row.tw16494851867235494105 : True := trivial
theorem law_row.tw16514244467048883040 : True := trivial
theorem law_row.tw16685711829948204329 : True := trivial
theorem law_row.tw16731931924389877685 : True := trivial
theorem law_row.tw16813980081525284676 : True := trivial
theorem law_row.tw16885629722014818624 : True := trivial
theorem law_row.tw16935623281680803217 : True := trivial
theorem law_row.tw1719974106940279810 : True := trivial
theorem law_row.tw17229896955751370846 : True := trivial
theorem law_row.tw17357360562833658930 : True := trivial
theorem law_row.tw17521388592084695517 : True := trivial
theorem law_row.tw17589299703803760765 : True := trivial
theorem law_row.tw17718565005736259922 : True := trivial
theorem law_row.tw17817931953371156311 : True := trivial
theorem law_row.tw18265636365939746561 : True := trivial
theorem law_row.tw18429080625716718650 : True := trivial
theorem law_row.tw1868624362176567066 : True := trivial
theorem law_row.tw194578820182887012 : True := trivial
theorem law_row.tw2094731601779256682 : True := trivial
theorem law_row.tw2133600332215299701 : True := trivial
theorem law_row.tw2182165485554847766 : True := trivial
theorem law_row.tw2198036082662753141 : True := trivial
theorem law_row.tw2291781821260580198 : True := trivial
theorem law_row.tw2324569123148220419 : True := trivial
theorem law_row.tw2538728275684399311 : True := trivial
theorem law_row.tw2658628739394851555 : True := trivial
theorem law_row.tw2664255135120047591 : True := trivial
theorem law_row.tw26990082082951987 : True := trivial
theorem law_row.tw2817111418733828973 : True := trivial
theorem law_row.tw2951143502166679653 : True := trivial
theorem law_row.tw2980878952829203005 : True := trivial
theorem law_row.tw3012078217959271778 : True := trivial
theorem law_row.tw3189063746573255235 : True := trivial
theorem law_row.tw3221615462305331812 : True := trivial
theorem law_row.tw3497284345432468870 : True := trivial
theorem law_row.tw3513319247687322732 : True := trivial
theorem law_row.tw363789939228368288 : True := trivial
theorem law_row.tw3653814289521490460 : True := trivial
theorem law_row.tw3718184551819444496 : True := trivial
theorem law_row.tw3720435892291706924 : True := trivial
theorem law_row.tw3726314699188036746 : True := trivial
theorem law_row.tw3967345374706882409 : True := trivial
theorem law_row.tw3993262306495915688 : True := trivial
theorem law_row.tw4064039717046804231 : True := trivial
theorem law_row.tw4148501959634363613 : True := trivial
theorem law_row.tw4170390171069046910 : True := trivial
theorem law_row.tw4218310092470035735 : True := trivial
theorem law_row.tw4244165008532410530 : True := trivial
theorem law_row.tw444503148732472608 : True := trivial
theorem law_row.tw45249428283674611 : True := trivial
theorem law_row.tw4593182695116132120 : True := trivial
theorem law_row.tw4828786930930547746 : True := trivial
theorem law_row.tw5046361665481757777 : True := trivial
theorem law_row.tw5135447950826881656 : True := trivial
theorem law_row.tw5232981272104619488 : True := trivial
theorem law_row.tw5308570493708105472 : True := trivial
theorem law_row.tw5341028522372387993 : True := trivial
theorem law_row.tw5401904474559572817 : True := trivial
theorem law_row.tw5619005202988638388 : True := trivial
theorem law_row.tw5636246480575071900 : True := trivial
theorem law_row.tw5642401413867143893 : True := trivial
theorem law_row.tw5665938868084557668 : True := trivial
theorem law_row.tw5941522117613505851 : True := trivial
theorem law_row.tw5966380629847953713 : True := trivial
theorem law_row.tw6034358244202426022 : True := trivial
theorem law_row.tw6366213575639503055 : True := trivial
theorem law_row.tw6587521417223806781 : True := trivial
theorem law_row.tw6761961818170805840 : True := trivial
theorem law_row.tw6971117418910587322 : True := trivial
theorem law_row.tw7080072012463305520 : True := trivial
theorem law_row.tw711479257865949307 : True := trivial
theorem law_row.tw7127869470265821789 : True := trivial
theorem law_row.tw7163491324905853781 : True := trivial
theorem law_row.tw757993462134581201 : True := trivial
theorem law_row.tw7645872577253138694 : True := trivial
theorem law_row.tw7838469066390146394 : True := trivial
theorem law_row.tw7874319953253483683 : True := trivial
theorem law_row.tw7883658121166357607 : True := trivial
theorem law_row.tw7895221819591858683 : True := trivial
theorem law_row.tw7940921751713162132 : True := trivial
theorem law_row.tw7961919760043388015 : True := trivial
theorem law_row.tw817424010917380436 : True := trivial
theorem law_row.tw8175208329865720330 : True := trivial
theorem law_row.tw8180223123466679924 : True := trivial
theorem law_row.tw8212910354268034457 : True := trivial
theorem law_row.tw826010025320179405 : True := trivial
theorem law_row.tw8293706413797406827 : True := trivial
theorem law_row.tw8308059737293715960 : True := trivial
theorem law_row.tw8375456348234612687 : True := trivial
theorem law_row.tw8378176217796458562 : True := trivial
theorem law_row.tw853907264709150322 : True := trivial
theorem law_row.tw8582415931641839733 : True := trivial
theorem law_row.tw8676099793475756959 : True := trivial
theorem law_row.tw8694574187353445910 : True := trivial
theorem law_row.tw8750429937069423934 : True := trivial
theorem law_row.tw8759623483660816898 : True := trivial
theorem law_row.tw8940733338437300356 : True := trivial
theorem law_row.tw9122956786601796259 : True := trivial
theorem law_row.tw9211287223602282021 : True := trivial
theorem law_row.tw9232080496609843937 : True := trivial
theorem law_row.tw9299653430555689139 : True := trivial
theorem law_row.tw9392432879005615956 : True := trivial
theorem law_row.tw9396826670133418992 : True := trivial
theorem law_row.tw9457693305153099962 : True := trivial
theorem law_row.tw9464624883193015116 : True := trivial
theorem law_row.tw9483078176505556219 : True := trivial
theorem law_row.tw9497388693522487574 : True := trivial
theorem law_row.tw9533907047379636843 : True := trivial
theorem law_row.tw9568240485830956824 : True := trivial
theorem law_row.tw9676038571080993838 : True := trivial
theorem law_row.tw9702265581333934807 : True := trivial
theorem law_row.tw9748295543084955315 : True := trivial
theorem law_row.tw9782725154368914996 : True := trivial
theorem law_row.tw9958056722759079662 : True := trivial
theorem law_row.tw9990321644360041285 : True := trivial
set_option Elab.async true in
theorem law_row : PySem.Challenge.rw_qd0004_01.Holds := by
  w_on
  o_law
  k_head
  case hw => w_witness2
  show WalkO Ahead.view_1_40 [] (XL Ahead.view_1_40 []) (kHook Ahead.heap_1_39 _ (fun _ => by kernel_rfl)).says _ _ _ _
  k_go0
  all_goals try k_fold
  k_steps
  rename Top Ahead.view_1_40 (looseW Ahead.view_1_40 []) _ _ _ (Shared.heap _) => kT
  rename Below callerA (Top.heap _) [] (Top.heap _) => kB
  rename (Ahead.heap_1_39 _).In (Shared.heap _) => kX
  rename News (Top.heap _) _ _ _ => kN
  rename Fr (Top.heap _) _ _ _ => kF
  rename IntsAre _ (List.map (fun k' => k') (List.take 60 _)) => kI
  rename ¬ (63 : Int) < _ => k63
  have G : Gr _ callerA _ _ [] _ _ _ := ⟨kB, kX, kT⟩
  rename Obj.IsDictOf _ _ (strPairs _) => kD
  rename (_ == sysModules) = false => kS
  rename Obj.IsDictOf (PySem.strKind _ _) _ [] => kP
  have T0 : TapeAt _ _ _ _ 0 _ := ⟨_, _, mem_8 kN, mem_6 kN, _, kD⟩
  have L0 : LogAt _ _ _ _ _ [] _ := ⟨⟨_, _, [], 0, _, [], mem_4 kN, mem_5 kN, mem_3 kN, mem_2 kN, places_nil kP, (fun x hx => nomatch hx), trivial, ⟨Nat.le_refl _, (fun x hx => nomatch hx), (fun s hs => nomatch hs)⟩⟩, kS, by omega⟩
  have AP := apart_of T0 L0 (by omega) (by omega) (by omega)
  have hK1 := mem_10 kN
  have hK2 := mem_9 kN
  rename (_ : Obj).data = Data.cell (some (Value.ref _)) => kC1
  refine hide_goal fun kHide => ?_
  obtain ⟨rD, rU⟩ := room_law
  refine kHide ?_
  clear kHide
  refine Mark.un (For_range_D kF (by rfl) (by rfl) ?_)
  k_steps
  refine Mark.un (take_N G ⟨rfl, rfl, by k_room, by k_room, rfl, rfl⟩ kF kN T0 kI (by rw [List.length_map, List.length_take]; first | (with_reducible first | assumption | exact u_1 | exact u_2 | exact u_3 | exact i_0 | exact i_1 | exact i_2 | exact n_le | exact sub0 | exact c_0 | exact c_lo | exact c_le | exact c_lt | exact c_pos | exact n_s1 | exact n_eq | exact u_n | exact t_0 | exact t_1 | exact t_2 | exact t_3 | exact t_n | exact lo_6 | exact hi_6 | exact i_3 | exact i_n | exact n_s2) | decide | omega) (by first | (with_reducible first | assumption | exact u_1 | exact u_2 | exact u_3 | exact i_0 | exact i_1 | exact i_2 | exact n_le | exact sub0 | exact c_0 | exact c_lo | exact c_le | exact c_lt | exact c_pos | exact n_s1 | exact n_eq | exact u_n | exact t_0 | exact t_1 | exact t_2 | exact t_3 | exact t_n | exact lo_6 | exact hi_6 | exact i_3 | exact i_n | exact n_s2) | decide | omega) (by first | (with_reducible first | assumption | exact u_1 | exact u_2 | exact u_3 | exact i_0 | exact i_1 | exact i_2 | exact n_le | exact sub0 | exact c_0 | exact c_lo | exact c_le | exact c_lt | exact c_pos | exact n_s1 | exact n_eq | exact u_n | exact t_0 | exact t_1 | exact t_2 | exact t_3 | exact t_n | exact lo_6 | exact hi_6 | exact i_3 | exact i_n | exact n_s2) | decide | omega) (by first | (with_reducible first | assumption | exact u_1 | exact u_2 | exact u_3 | exact i_0 | exact i_1 | exact i_2 | exact n_le | exact sub0 | exact c_0 | exact c_lo | exact c_le | exact c_lt | exact c_pos | exact n_s1 | exact n_eq | exact u_n | exact t_0 | exact t_1 | exact t_2 | exact t_3 | exact t_n | exact lo_6 | exact hi_6 | exact i_3 | exact i_n | exact n_s2) | decide | omega) (by first | (with_reducible first | assumption | exact u_1 | exact u_2 | exact u_3 | exact i_0 | exact i_1 | exact i_2 | exact n_le | exact sub0 | exact c_0 | exact c_lo | exact c_le | exact c_lt | exact c_pos | exact n_s1 | exact n_eq | exact u_n | exact t_0 | exact t_1 | exact t_2 | exact t_3 | exact t_n | exact lo_6 | exact hi_6 | exact i_3 | exact i_n | exact n_s2) | decide | omega) ?_)
  intro n1 t1 h1 tk1 nw1 q0 q1 F1 N1 T1 K1
  have L1 := L0.tape T0 AP kN K1
  have hK1' := keep_ne K1 hK1 (by first | (with_reducible first | assumption | exact u_1 | exact u_2 | exact u_3 | exact i_0 | exact i_1 | exact i_2 | exact n_le | exact sub0 | exact c_0 | exact c_lo | exact c_le | exact c_lt | exact c_pos | exact n_s1 | exact n_eq | exact u_n | exact t_0 | exact t_1 | exact t_2 | exact t_3 | exact t_n | exact lo_6 | exact hi_6 | exact i_3 | exact i_n | exact n_s2) | decide | omega)
  have hK2' := keep_ne K1 hK2 (by first | (with_reducible first | assumption | exact u_1 | exact u_2 | exact u_3 | exact i_0 | exact i_1 | exact i_2 | exact n_le | exact sub0 | exact c_0 | exact c_lo | exact c_le | exact c_lt | exact c_pos | exact n_s1 | exact n_eq | exact u_n | exact t_0 | exact t_1 | exact t_2 | exact t_3 | exact t_n | exact lo_6 | exact hi_6 | exact i_3 | exact i_n | exact n_s2) | decide | omega)
  clear kN
  dsimp only
  k_steps
  refine hide_goal fun kHide => ?_
  obtain ⟨nn, hnn⟩ := Int.eq_ofNat_of_zero_le (show 0 ≤ 6 + n1 by omega)
  refine kHide ?_
  clear kHide
  rename IsRange _ _ _ _ _ _ _ _ => kR
  rename Fr (Top.heap _) _ _ _ => kF2
  rename News (Top.heap _) _ _ nw1 => kN2
  refine ⟨_, _, _, _, _, _, nn, _, nw1, (fun i m nw => LawSt _ _ _ _ _ _ _ _ _ _ _ i m nw), rfl, rfl, kR, small_one (by first | (with_reducible first | assumption | exact u_1 | exact u_2 | exact u_3 | exact i_0 | exact i_1 | exact i_2 | exact n_le | exact sub0 | exact c_0 | exact c_lo | exact c_le | exact c_lt | exact c_pos | exact n_s1 | exact n_eq | exact u_n | exact t_0 | exact t_1 | exact t_2 | exact t_3 | exact t_n | exact lo_6 | exact hi_6 | exact i_3 | exact i_n | exact n_s2) | decide | omega) (by first | (with_reducible first | assumption | exact u_1 | exact u_2 | exact u_3 | exact i_0 | exact i_1 | exact i_2 | exact n_le | exact sub0 | exact c_0 | exact c_lo | exact c_le | exact c_lt | exact c_pos | exact n_s1 | exact n_eq | exact u_n | exact t_0 | exact t_1 | exact t_2 | exact t_3 | exact t_n | exact lo_6 | exact hi_6 | exact i_3 | exact i_n | exact n_s2) | decide | omega) (by first | (with_reducible first | assumption | exact u_1 | exact u_2 | exact u_3 | exact i_0 | exact i_1 | exact i_2 | exact n_le | exact sub0 | exact c_0 | exact c_lo | exact c_le | exact c_lt | exact c_pos | exact n_s1 | exact n_eq | exact u_n | exact t_0 | exact t_1 | exact t_2 | exact t_3 | exact t_n | exact lo_6 | exact hi_6 | exact i_3 | exact i_n | exact n_s2) | decide | omega) (by first | (with_reducible first | assumption | exact u_1 | exact u_2 | exact u_3 | exact i_0 | exact i_1 | exact i_2 | exact n_le | exact sub0 | exact c_0 | exact c_lo | exact c_le | exact c_lt | exact c_pos | exact n_s1 | exact n_eq | exact u_n | exact t_0 | exact t_1 | exact t_2 | exact t_3 | exact t_n | exact lo_6 | exact hi_6 | exact i_3 | exact i_n | exact n_s2) | decide | omega), (rangeSize_nat _ _).trans (by rw [hnn]; exact sub0), kF2, kN2, ⟨⟨[], _, _, _, T1, L1, hK1', hK2', by assumption, Nat.zero_le _, (fun x hx => nomatch hx), by first | (with_reducible first | assumption | exact u_1 | exact u_2 | exact u_3 | exact i_0 | exact i_1 | exact i_2 | exact n_le | exact sub0 | exact c_0 | exact c_lo | exact c_le | exact c_lt | exact c_pos | exact n_s1 | exact n_eq | exact u_n | exact t_0 | exact t_1 | exact t_2 | exact t_3 | exact t_n | exact lo_6 | exact hi_6 | exact i_3 | exact i_n | exact n_s2) | decide | omega, by first | (with_reducible first | assumption | exact u_1 | exact u_2 | exact u_3 | exact i_0 | exact i_1 | exact i_2 | exact n_le | exact sub0 | exact c_0 | exact c_lo | exact c_le | exact c_lt | exact c_pos | exact n_s1 | exact n_eq | exact u_n | exact t_0 | exact t_1 | exact t_2 | exact t_3 | exact t_n | exact lo_6 | exact hi_6 | exact i_3 | exact i_n | exact n_s2) | decide | omega⟩, by rfl, AP, ⟨by omega, by first | (with_reducible first | assumption | exact u_1 | exact u_2 | exact u_3 | exact i_0 | exact i_1 | exact i_2 | exact n_le | exact sub0 | exact c_0 | exact c_lo | exact c_le | exact c_lt | exact c_pos | exact n_s1 | exact n_eq | exact u_n | exact t_0 | exact t_1 | exact t_2 | exact t_3 | exact t_n | exact lo_6 | exact hi_6 | exact i_3 | exact i_n | exact n_s2) | decide | omega, by first | (with_reducible first | assumption | exact u_1 | exact u_2 | exact u_3 | exact i_0 | exact i_1 | exact i_2 | exact n_le | exact sub0 | exact c_0 | exact c_lo | exact c_le | exact c_lt | exact c_pos | exact n_s1 | exact n_eq | exact u_n | exact t_0 | exact t_1 | exact t_2 | exact t_3 | exact t_n | exact lo_6 | exact hi_6 | exact i_3 | exact i_n | exact n_s2) | decide | omega⟩, ⟨by omega, by first | (with_reducible first | assumption | exact u_1 | exact u_2 | exact u_3 | exact i_0 | exact i_1 | exact i_2 | exact n_le | exact sub0 | exact c_0 | exact c_lo | exact c_le | exact c_lt | exact c_pos | exact n_s1 | exact n_eq | exact u_n | exact t_0 | exact t_1 | exact t_2 | exact t_3 | exact t_n | exact lo_6 | exact hi_6 | exact i_3 | exact i_n | exact n_s2) | decide | omega, by first | (with_reducible first | assumption | exact u_1 | exact u_2 | exact u_3 | exact i_0 | exact i_1 | exact i_2 | exact n_le | exact sub0 | exact c_0 | exact c_lo | exact c_le | exact c_lt | exact c_pos | exact n_s1 | exact n_eq | exact u_n | exact t_0 | exact t_1 | exact t_2 | exact t_3 | exact t_n | exact lo_6 | exact hi_6 | exact i_3 | exact i_n | exact n_s2) | decide | omega⟩, by first | (with_reducible first | assumption | exact u_1 | exact u_2 | exact u_3 | exact i_0 | exact i_1 | exact i_2 | exact n_le | exact sub0 | exact c_0 | exact c_lo | exact c_le | exact c_lt | exact c_pos | exact n_s1 | exact n_eq | exact u_n | exact t_0 | exact t_1 | exact t_2 | exact t_3 | exact t_n | exact lo_6 | exact hi_6 | exact i_3 | exact i_n | exact n_s2) | decide | omega⟩, ?_, ?_⟩
  · intro i t I oI m nw h tk d E' hi hJ F N off hoI
    refine hide_goal fun kHide => ?_
    obtain ⟨⟨st, sp, o2, v2, T3, L3, hc1, hc2, hd2, hlen, hok, hs0, hs1⟩, hlog, ap, ra, rb, rc⟩ := hJ
    refine kHide ?_
    clear kHide
    have hi12 : i < 12 := by omega
    have hst12 := st_12 hlen hi12
    have hspB := sp_400 hs1 hi12
    have hns := ints_63 kI
    rw [map_at hlog] at F
    refine hide_goal fun kHide => ?_
    obtain ⟨v1, u2, sv, n3, po, xs, m1, m2, m3, m4, _, _, hst, _⟩ := L3.ex
    refine kHide ?_
    clear kHide
    have hfI : ∀ {a : Addr} {o : Obj}, (a, o) ∈ nw → @Ne Nat I a := fun hm => Ne.symm (off _ hm)
    have htp : ∃ o, (_, o) ∈ nw := let ⟨o, _, q, _⟩ := T3; ⟨o, q⟩
    refine hide_goal fun kHide => ?_
    obtain ⟨otp, htp⟩ := htp
    refine kHide ?_
    clear kHide
    have S0 := TS.mk (T3.sub (sub_1 N)) (L3.sub (sub_1 N)) ⟨ap, ra, rb, rc, hfI htp, hfI m3, hfI m4, hfI hc2⟩ (sub_1 N _ hc1) (mem_1 N) ⟨o2, v2, sub_1 N _ hc2, hd2⟩
    have m1' := sub_1 N _ m1
    have m2' := sub_1 N _ m2
    have m3' := sub_1 N _ m3
    have hc1' := sub_1 N _ hc1
    have hst0 := hst.mono (sub_1 N)
    have hlv := hst.length
    clear kN2 kF2 kR L1 K1 T1 hK1 hK2 hK1' hK2' T0 L0 kD kS kP off hfI m1 m2 m3 m4 hc1 hc2 hd2 htp hst T3 L3 hlog
    rename_i z1 z2 z3 z4 z5 z6 z7 z8 z9 z10 z11 z12 z13 z14 z15 z16 z17 z18 z19 z20 z21 z22 z23 z24 z25 z26 z27 z28 z29 z30 z31 z32 z33 z34 z35 z36 z37 z38 z39 z40 z41 z42 z43 z44 z45 z46 z47 z48 z49 z50 z51 z52 z53 z54 z55 z56 z57 z58 z59 z60 z61 z62 z63 z64 z65 z66 z67 z68 z69 z70 z71 z72 z73 z74 z75 z76 z77 z78 z79 z80 z81 z82 z83 z84 z85 z86 z87 z88 z89 z90 z91 z92 z93 z94 z95 z96 z97 z98 z99 z100 z101 z102 z103 z104 z105 z106 z107 z108 z109 z110 z111 z112 z113 z114 z115 z116 z117 z118 z119 z120
    try clear z120
    try clear z119
    try clear z118
    try clear z117
    try clear z116
    try clear z115
    try clear z114
    try clear z113
    try clear z112
    try clear z111
    try clear z110
    try clear z109
    try clear z108
    try clear z107
    try clear z106
    try clear z105
    try clear z104
    try clear z103
    try clear z102
    try clear z101
    try clear z100
    try clear z99
    try clear z98
    try clear z97
    try clear z96
    try clear z95
    try clear z94
    try clear z93
    try clear z92
    try clear z91
    try clear z90
    try clear z89
    try clear z88
    try clear z87
    try clear z86
    try clear z85
    try clear z84
    try clear z83
    try clear z82
    try clear z81
    try clear z80
    try clear z79
    try clear z78
    try clear z77
    try clear z76
    try clear z75
    try clear z74
    try clear z73
    try clear z72
    try clear z71
    try clear z70
    try clear z69
    try clear z68
    try clear z67
    try clear z66
    try clear z65
    try clear z64
    try clear z63
    try clear z62
    try clear z61
    try clear z60
    try clear z59
    try clear z58
    try clear z57
    try clear z56
    try clear z55
    try clear z54
    try clear z53
    try clear z52
    try clear z51
    try clear z50
    try clear z49
    try clear z48
    try clear z47
    try clear z46
    try clear z45
    try clear z44
    try clear z43
    try clear z42
    try clear z41
    try clear z40
    try clear z39
    try clear z38
    try clear z37
    try clear z36
    try clear z35
    try clear z34
    try clear z33
    try clear z32
    try clear z31
    try clear z30
    try clear z29
    try clear z28
    try clear z27
    try clear z26
    try clear z25
    try clear z24
    try clear z23
    try clear z22
    try clear z21
    try clear z20
    try clear z19
    try clear z18
    try clear z17
    try clear z16
    try clear z15
    try clear z14
    try clear z13
    try clear z12
    try clear z11
    try clear z10
    try clear z9
    try clear z8
    try clear z7
    try clear z6
    try clear z5
    try clear z4
    try clear z3
    try clear z2
    try clear z1
    k_steps
    refine Mark.un (list_copyK F N (N.isList (d := none) (sl := #[]) m3') ?_ (by rw [List.size_toArray, hlv, sizeLine_eq]; first | (with_reducible first | assumption | exact u_1 | exact u_2 | exact u_3 | exact i_0 | exact i_1 | exact i_2 | exact n_le | exact sub0 | exact c_0 | exact c_lo | exact c_le | exact c_lt | exact c_pos | exact n_s1 | exact n_eq | exact u_n | exact t_0 | exact t_1 | exact t_2 | exact t_3 | exact t_n | exact lo_6 | exact hi_6 | exact i_3 | exact i_n | exact n_s2) | decide | omega))
    intro D1 n1' h1 F1 N1 lt1
    have S1 := S0.sub (sub_1 N1)
    have hcp1 := mem_1 N1
    have hst1 := hst0.mono (sub_1 N1)
    have hDs : @Ne Nat D1 _ := Nat.ne_of_gt (lt1 _ m3')
    have hc1'' := sub_1 N1 _ hc1'
    clear m1' m2' m3' hc1' S0 hst0
    dsimp only
    k_steps
    refine Mark.un (take_N G ⟨rfl, rfl, by k_room, by k_room, rfl, rfl⟩ F1 N1 S1.T kI hns (by first | (with_reducible first | assumption | exact u_1 | exact u_2 | exact u_3 | exact i_0 | exact i_1 | exact i_2 | exact n_le | exact sub0 | exact c_0 | exact c_lo | exact c_le | exact c_lt | exact c_pos | exact n_s1 | exact n_eq | exact u_n | exact t_0 | exact t_1 | exact t_2 | exact t_3 | exact t_n | exact lo_6 | exact hi_6 | exact i_3 | exact i_n | exact n_s2) | decide | omega) (by first | (with_reducible first | assumption | exact u_1 | exact u_2 | exact u_3 | exact i_0 | exact i_1 | exact i_2 | exact n_le | exact sub0 | exact c_0 | exact c_lo | exact c_le | exact c_lt | exact c_pos | exact n_s1 | exact n_eq | exact u_n | exact t_0 | exact t_1 | exact t_2 | exact t_3 | exact t_n | exact lo_6 | exact hi_6 | exact i_3 | exact i_n | exact n_s2) | decide | omega) (by first | (with_reducible first | assumption | exact u_1 | exact u_2 | exact u_3 | exact i_0 | exact i_1 | exact i_2 | exact n_le | exact sub0 | exact c_0 | exact c_lo | exact c_le | exact c_lt | exact c_pos | exact n_s1 | exact n_eq | exact u_n | exact t_0 | exact t_1 | exact t_2 | exact t_3 | exact t_n | exact lo_6 | exact hi_6 | exact i_3 | exact i_n | exact n_s2) | decide | omega) (by first | (with_reducible first | assumption | exact u_1 | exact u_2 | exact u_3 | exact i_0 | exact i_1 | exact i_2 | exact n_le | exact sub0 | exact c_0 | exact c_lo | exact c_le | exact c_lt | exact c_pos | exact n_s1 | exact n_eq | exact u_n | exact t_0 | exact t_1 | exact t_2 | exact t_3 | exact t_n | exact lo_6 | exact hi_6 | exact i_3 | exact i_n | exact n_s2) | decide | omega) ?_)
    intro w1 t2 h2 tk2 nw2 q2 q3 F2 N2 T2 K2
    have S2 := S1.tape N1 K2 T2
    have hcp2 := keep_list S1.T N1 K2 hcp1
    have hst2 := hst1.ups (tape_keep_tups S1.T N1 K2)
    clear N1 hcp1 hst1 S1 T2 hc1''
    dsimp only
    k_steps
    rename News _ _ _ (_ :: nw2) => kN3
    have S3 := S2.sub (sub_1 kN3)
    refine hide_goal fun kHide => ?_
    obtain ⟨o2', v2', hc2', hd2'⟩ := S3.c2
    refine kHide ?_
    clear kHide
    refine store_cellN (by assumption) kN3 hc2' hd2' rfl rfl rfl ?_
    intro h4 o4 nw4 F4 N4 hc4 hd4 sq4 kp4
    have S4 := S3.cell kN3 kp4 hc4 hd4 sq4
    have hcp4 := sq4 _ (sub_1 kN3 _ hcp2) ⟨_, _, rfl⟩
    have hst4 := StAll.seq sq4 (hst2.mono (sub_1 kN3))
    have hc1 := S4.c1
    clear kN3 S3 S2 hcp2 hst2 hc2' hd2'
    dsimp only
    k_steps
    · rename News _ _ _ nw4 => kN4
      refine Mark.un (said_N G ⟨rfl, rfl, by k_room, by k_room, rfl, rfl⟩ (by assumption) kN4 S4.T S4.La S4.far.ap kI hns (by first | (with_reducible first | assumption | exact u_1 | exact u_2 | exact u_3 | exact i_0 | exact i_1 | exact i_2 | exact n_le | exact sub0 | exact c_0 | exact c_lo | exact c_le | exact c_lt | exact c_pos | exact n_s1 | exact n_eq | exact u_n | exact t_0 | exact t_1 | exact t_2 | exact t_3 | exact t_n | exact lo_6 | exact hi_6 | exact i_3 | exact i_n | exact n_s2) | decide | omega) (by first | (with_reducible first | assumption | exact u_1 | exact u_2 | exact u_3 | exact i_0 | exact i_1 | exact i_2 | exact n_le | exact sub0 | exact c_0 | exact c_lo | exact c_le | exact c_lt | exact c_pos | exact n_s1 | exact n_eq | exact u_n | exact t_0 | exact t_1 | exact t_2 | exact t_3 | exact t_n | exact lo_6 | exact hi_6 | exact i_3 | exact i_n | exact n_s2) | decide | omega) hcp4 hDs hst4 (by first | (with_reducible first | assumption | exact u_1 | exact u_2 | exact u_3 | exact i_0 | exact i_1 | exact i_2 | exact n_le | exact sub0 | exact c_0 | exact c_lo | exact c_le | exact c_lt | exact c_pos | exact n_s1 | exact n_eq | exact u_n | exact t_0 | exact t_1 | exact t_2 | exact t_3 | exact t_n | exact lo_6 | exact hi_6 | exact i_3 | exact i_n | exact n_s2) | decide | omega) hok ?_)
      intro st5 sp5 h5 tk5 d5 nw5 e1 e2 e3 e4 F5 N5 T5 L5 K5
      have hS5 := fin_20 hs1 e4
      have hU5 := up_1 hs0 e3
      have S5 := S4.all K5 T5 L5
      dsimp only
      k_steps
      rename News _ _ _ nw5 => kN5
      exact fend_of S5 kN5 (by assumption) (by rfl) (by first | (with_reducible first | assumption | exact u_1 | exact u_2 | exact u_3 | exact i_0 | exact i_1 | exact i_2 | exact n_le | exact sub0 | exact c_0 | exact c_lo | exact c_le | exact c_lt | exact c_pos | exact n_s1 | exact n_eq | exact u_n | exact t_0 | exact t_1 | exact t_2 | exact t_3 | exact t_n | exact lo_6 | exact hi_6 | exact i_3 | exact i_n | exact n_s2) | decide | omega) e2 (by first | (with_reducible first | assumption | exact u_1 | exact u_2 | exact u_3 | exact i_0 | exact i_1 | exact i_2 | exact n_le | exact sub0 | exact c_0 | exact c_lo | exact c_le | exact c_lt | exact c_pos | exact n_s1 | exact n_eq | exact u_n | exact t_0 | exact t_1 | exact t_2 | exact t_3 | exact t_n | exact lo_6 | exact hi_6 | exact i_3 | exact i_n | exact n_s2) | decide | omega) (by first | (with_reducible first | assumption | exact u_1 | exact u_2 | exact u_3 | exact i_0 | exact i_1 | exact i_2 | exact n_le | exact sub0 | exact c_0 | exact c_lo | exact c_le | exact c_lt | exact c_pos | exact n_s1 | exact n_eq | exact u_n | exact t_0 | exact t_1 | exact t_2 | exact t_3 | exact t_n | exact lo_6 | exact hi_6 | exact i_3 | exact i_n | exact n_s2) | decide | omega) hoI ⟨_, kC1⟩ (by first | exact .inl rfl | exact .inr rfl)
    · rename News _ _ _ nw4 => kN4
      refine Mark.un (clause_core G ⟨rfl, rfl, by k_room, by k_room, rfl, rfl⟩ (by assumption) kN4 S4.T kI hns (by first | (with_reducible first | assumption | exact u_1 | exact u_2 | exact u_3 | exact i_0 | exact i_1 | exact i_2 | exact n_le | exact sub0 | exact c_0 | exact c_lo | exact c_le | exact c_lt | exact c_pos | exact n_s1 | exact n_eq | exact u_n | exact t_0 | exact t_1 | exact t_2 | exact t_3 | exact t_n | exact lo_6 | exact hi_6 | exact i_3 | exact i_n | exact n_s2) | decide | omega) (by first | (with_reducible first | assumption | exact u_1 | exact u_2 | exact u_3 | exact i_0 | exact i_1 | exact i_2 | exact n_le | exact sub0 | exact c_0 | exact c_lo | exact c_le | exact c_lt | exact c_pos | exact n_s1 | exact n_eq | exact u_n | exact t_0 | exact t_1 | exact t_2 | exact t_3 | exact t_n | exact lo_6 | exact hi_6 | exact i_3 | exact i_n | exact n_s2) | decide | omega) hcp4 hst4 (by first | (with_reducible first | assumption | exact u_1 | exact u_2 | exact u_3 | exact i_0 | exact i_1 | exact i_2 | exact n_le | exact sub0 | exact c_0 | exact c_lo | exact c_le | exact c_lt | exact c_pos | exact n_s1 | exact n_eq | exact u_n | exact t_0 | exact t_1 | exact t_2 | exact t_3 | exact t_n | exact lo_6 | exact hi_6 | exact i_3 | exact i_n | exact n_s2) | decide | omega) hok ?_)
      intro c ca sp5 h5 tk5 d5 nw5 hcok hca e3 e4 F5 N5 T5 K5
      have hS5 := fin_8 hs1 e4
      have hU5 := up_1 hs0 e3
      have hB5 := big_8 hspB e4
      have S5 := S4.tape kN4 K5 T5
      have hcp5 := keep_list S4.T kN4 K5 hcp4
      have hst5 := hst4.ups (tape_keep_tups S4.T kN4 K5)
      have hc5 := keep_ne K5 hc4 S4.far.b.1
      have hc1' := S5.c1
      clear kN4 hcp4 hst4 hc4 sq4 kp4 hc1 S4
      dsimp only
      k_steps
      · rename News _ _ _ nw5 => kN5
        refine Mark.un (take_N G ⟨rfl, rfl, by k_room, by k_room, rfl, rfl⟩ (by assumption) kN5 S5.T kI hns (by first | (with_reducible first | assumption | exact u_1 | exact u_2 | exact u_3 | exact i_0 | exact i_1 | exact i_2 | exact n_le | exact sub0 | exact c_0 | exact c_lo | exact c_le | exact c_lt | exact c_pos | exact n_s1 | exact n_eq | exact u_n | exact t_0 | exact t_1 | exact t_2 | exact t_3 | exact t_n | exact lo_6 | exact hi_6 | exact i_3 | exact i_n | exact n_s2) | decide | omega) (by first | (with_reducible first | assumption | exact u_1 | exact u_2 | exact u_3 | exact i_0 | exact i_1 | exact i_2 | exact n_le | exact sub0 | exact c_0 | exact c_lo | exact c_le | exact c_lt | exact c_pos | exact n_s1 | exact n_eq | exact u_n | exact t_0 | exact t_1 | exact t_2 | exact t_3 | exact t_n | exact lo_6 | exact hi_6 | exact i_3 | exact i_n | exact n_s2) | decide | omega) (by first | (with_reducible first | assumption | exact u_1 | exact u_2 | exact u_3 | exact i_0 | exact i_1 | exact i_2 | exact n_le | exact sub0 | exact c_0 | exact c_lo | exact c_le | exact c_lt | exact c_pos | exact n_s1 | exact n_eq | exact u_n | exact t_0 | exact t_1 | exact t_2 | exact t_3 | exact t_n | exact lo_6 | exact hi_6 | exact i_3 | exact i_n | exact n_s2) | decide | omega) (by first | (with_reducible first | assumption | exact u_1 | exact u_2 | exact u_3 | exact i_0 | exact i_1 | exact i_2 | exact n_le | exact sub0 | exact c_0 | exact c_lo | exact c_le | exact c_lt | exact c_pos | exact n_s1 | exact n_eq | exact u_n | exact t_0 | exact t_1 | exact t_2 | exact t_3 | exact t_n | exact lo_6 | exact hi_6 | exact i_3 | exact i_n | exact n_s2) | decide | omega) ?_)
        intro n6 t6 h6 tk6 nw6 q6 q6' F6 N6 T6 K6
        have S6 := S5.tape kN5 K6 T6
        have hcp6 := keep_list S5.T kN5 K6 hcp5
        have tu6 := tape_keep_tups S5.T kN5 K6
        have hst6 := hst5.ups tu6
        have hca6 := hca.ups tu6
        have hc6 := keep_ne K6 hc5 S5.far.b.1
        clear kN5 hcp5 hst5 hca hc5 S5 tu6
        dsimp only
        k_steps
        rename News _ _ _ nw6 => kN6
        refine Mark.un (tell_N G ⟨rfl, rfl, by k_room, by k_room, rfl, rfl⟩ (by assumption) kN6 S6.La (by first | (with_reducible first | assumption | exact u_1 | exact u_2 | exact u_3 | exact i_0 | exact i_1 | exact i_2 | exact n_le | exact sub0 | exact c_0 | exact c_lo | exact c_le | exact c_lt | exact c_pos | exact n_s1 | exact n_eq | exact u_n | exact t_0 | exact t_1 | exact t_2 | exact t_3 | exact t_n | exact lo_6 | exact hi_6 | exact i_3 | exact i_n | exact n_s2) | decide | omega) hca6 hcok ?_ ?_)
        · intro i7 st7 t7 h7 tk7 nw7 hs7 F7 N7 L7 K7
          have S7 := S6.log kN6 K7 L7
          have tu7 := S6.La.tups kN6 K7
          have hcp7 := S6.La.keep kN6 K7 hcp6 hDs (by intro es ep e; cases e)
          have hst7 := hst6.ups tu7
          have hca7 := hca6.ups tu7
          refine hide_goal fun kHide => ?_
          obtain ⟨hl7, hok7⟩ := statedR_ok hs7 hok hcok
          refine kHide ?_
          clear kHide
          clear kN6 hcp6 hst6 hca6 S6 tu7
          dsimp only
          k_steps
          rename News _ _ _ nw7 => kN7
          refine Mark.un (right_N G ⟨rfl, rfl, by k_room, by k_room, rfl, rfl⟩ (by assumption) kN7 S7.La hcp7 hst7 (by first | (with_reducible first | assumption | exact u_1 | exact u_2 | exact u_3 | exact i_0 | exact i_1 | exact i_2 | exact n_le | exact sub0 | exact c_0 | exact c_lo | exact c_le | exact c_lt | exact c_pos | exact n_s1 | exact n_eq | exact u_n | exact t_0 | exact t_1 | exact t_2 | exact t_3 | exact t_n | exact lo_6 | exact hi_6 | exact i_3 | exact i_n | exact n_s2) | decide | omega) hok hca7 hcok (.inl ⟨i7, t7, hs7, rfl⟩) ?_)
          intro h8 tk8 nw8 F8 N8 s8
          have S8 := S7.sub s8
          dsimp only
          k_steps
          rename News _ _ _ nw8 => kN8
          exact fend_of S8 kN8 (by assumption) (by rfl) (by first | (with_reducible first | assumption | exact u_1 | exact u_2 | exact u_3 | exact i_0 | exact i_1 | exact i_2 | exact n_le | exact sub0 | exact c_0 | exact c_lo | exact c_le | exact c_lt | exact c_pos | exact n_s1 | exact n_eq | exact u_n | exact t_0 | exact t_1 | exact t_2 | exact t_3 | exact t_n | exact lo_6 | exact hi_6 | exact i_3 | exact i_n | exact n_s2) | decide | omega) hok7 (by first | (with_reducible first | assumption | exact u_1 | exact u_2 | exact u_3 | exact i_0 | exact i_1 | exact i_2 | exact n_le | exact sub0 | exact c_0 | exact c_lo | exact c_le | exact c_lt | exact c_pos | exact n_s1 | exact n_eq | exact u_n | exact t_0 | exact t_1 | exact t_2 | exact t_3 | exact t_n | exact lo_6 | exact hi_6 | exact i_3 | exact i_n | exact n_s2) | decide | omega) (by first | (with_reducible first | assumption | exact u_1 | exact u_2 | exact u_3 | exact i_0 | exact i_1 | exact i_2 | exact n_le | exact sub0 | exact c_0 | exact c_lo | exact c_le | exact c_lt | exact c_pos | exact n_s1 | exact n_eq | exact u_n | exact t_0 | exact t_1 | exact t_2 | exact t_3 | exact t_n | exact lo_6 | exact hi_6 | exact i_3 | exact i_n | exact n_s2) | decide | omega) hoI ⟨_, kC1⟩ (by first | exact .inl rfl | exact .inr rfl)
        · intro t7 h7 tk7 nw7 hs7 F7 N7 L7 K7
          have S7 := S6.log kN6 K7 L7
          have tu7 := S6.La.tups kN6 K7
          have hcp7 := S6.La.keep kN6 K7 hcp6 hDs (by intro es ep e; cases e)
          have hst7 := hst6.ups tu7
          have hca7 := hca6.ups tu7
          clear kN6 hcp6 hst6 hca6 S6 tu7
          dsimp only
          k_steps
          rename News _ _ _ nw7 => kN7
          refine Mark.un (right_N G ⟨rfl, rfl, by k_room, by k_room, rfl, rfl⟩ (by assumption) kN7 S7.La hcp7 hst7 (by first | (with_reducible first | assumption | exact u_1 | exact u_2 | exact u_3 | exact i_0 | exact i_1 | exact i_2 | exact n_le | exact sub0 | exact c_0 | exact c_lo | exact c_le | exact c_lt | exact c_pos | exact n_s1 | exact n_eq | exact u_n | exact t_0 | exact t_1 | exact t_2 | exact t_3 | exact t_n | exact lo_6 | exact hi_6 | exact i_3 | exact i_n | exact n_s2) | decide | omega) hok hca7 hcok (.inr ⟨t7, hs7, rfl, rfl⟩) ?_)
          intro h8 tk8 nw8 F8 N8 s8
          have S8 := S7.sub s8
          dsimp only
          k_steps
          rename News _ _ _ nw8 => kN8
          exact fend_of S8 kN8 (by assumption) (by rfl) (by first | (with_reducible first | assumption | exact u_1 | exact u_2 | exact u_3 | exact i_0 | exact i_1 | exact i_2 | exact n_le | exact sub0 | exact c_0 | exact c_lo | exact c_le | exact c_lt | exact c_pos | exact n_s1 | exact n_eq | exact u_n | exact t_0 | exact t_1 | exact t_2 | exact t_3 | exact t_n | exact lo_6 | exact hi_6 | exact i_3 | exact i_n | exact n_s2) | decide | omega) hok (by first | (with_reducible first | assumption | exact u_1 | exact u_2 | exact u_3 | exact i_0 | exact i_1 | exact i_2 | exact n_le | exact sub0 | exact c_0 | exact c_lo | exact c_le | exact c_lt | exact c_pos | exact n_s1 | exact n_eq | exact u_n | exact t_0 | exact t_1 | exact t_2 | exact t_3 | exact t_n | exact lo_6 | exact hi_6 | exact i_3 | exact i_n | exact n_s2) | decide | omega) (by first | (with_reducible first | assumption | exact u_1 | exact u_2 | exact u_3 | exact i_0 | exact i_1 | exact i_2 | exact n_le | exact sub0 | exact c_0 | exact c_lo | exact c_le | exact c_lt | exact c_pos | exact n_s1 | exact n_eq | exact u_n | exact t_0 | exact t_1 | exact t_2 | exact t_3 | exact t_n | exact lo_6 | exact hi_6 | exact i_3 | exact i_n | exact n_s2) | decide | omega) hoI ⟨_, kC1⟩ (by first | exact .inl rfl | exact .inr rfl)
      · rename News _ _ _ nw5 => kN5
        refine Mark.un (take_N G ⟨rfl, rfl, by k_room, by k_room, rfl, rfl⟩ (by assumption) kN5 S5.T kI hns (by first | (with_reducible first | assumption | exact u_1 | exact u_2 | exact u_3 | exact i_0 | exact i_1 | exact i_2 | exact n_le | exact sub0 | exact c_0 | exact c_lo | exact c_le | exact c_lt | exact c_pos | exact n_s1 | exact n_eq | exact u_n | exact t_0 | exact t_1 | exact t_2 | exact t_3 | exact t_n | exact lo_6 | exact hi_6 | exact i_3 | exact i_n | exact n_s2) | decide | omega) (by first | (with_reducible first | assumption | exact u_1 | exact u_2 | exact u_3 | exact i_0 | exact i_1 | exact i_2 | exact n_le | exact sub0 | exact c_0 | exact c_lo | exact c_le | exact c_lt | exact c_pos | exact n_s1 | exact n_eq | exact u_n | exact t_0 | exact t_1 | exact t_2 | exact t_3 | exact t_n | exact lo_6 | exact hi_6 | exact i_3 | exact i_n | exact n_s2) | decide | omega) (by first | (with_reducible first | assumption | exact u_1 | exact u_2 | exact u_3 | exact i_0 | exact i_1 | exact i_2 | exact n_le | exact sub0 | exact c_0 | exact c_lo | exact c_le | exact c_lt | exact c_pos | exact n_s1 | exact n_eq | exact u_n | exact t_0 | exact t_1 | exact t_2 | exact t_3 | exact t_n | exact lo_6 | exact hi_6 | exact i_3 | exact i_n | exact n_s2) | decide | omega) (by first | (with_reducible first | assumption | exact u_1 | exact u_2 | exact u_3 | exact i_0 | exact i_1 | exact i_2 | exact n_le | exact sub0 | exact c_0 | exact c_lo | exact c_le | exact c_lt | exact c_pos | exact n_s1 | exact n_eq | exact u_n | exact t_0 | exact t_1 | exact t_2 | exact t_3 | exact t_n | exact lo_6 | exact hi_6 | exact i_3 | exact i_n | exact n_s2) | decide | omega) ?_)
        intro f1 t6 h6 tk6 nw6 q6 q6' F6 N6 T6 K6
        have S6 := S5.tape kN5 K6 T6
        have hcp6 := keep_list S5.T kN5 K6 hcp5
        have tu6 := tape_keep_tups S5.T kN5 K6
        have hst6 := hst5.ups tu6
        have hca6 := hca.ups tu6
        have hc6 := keep_ne K6 hc5 S5.far.b.1
        have hc16 := S6.c1
        clear kN5 hcp5 hst5 hca hc5 S5 tu6
        dsimp only
        k_steps
        rename News _ _ _ nw6 => kN6
        refine Mark.un (take_N G ⟨rfl, rfl, by k_room, by k_room, rfl, rfl⟩ (by assumption) kN6 S6.T kI hns (by first | (with_reducible first | assumption | exact u_1 | exact u_2 | exact u_3 | exact i_0 | exact i_1 | exact i_2 | exact n_le | exact sub0 | exact c_0 | exact c_lo | exact c_le | exact c_lt | exact c_pos | exact n_s1 | exact n_eq | exact u_n | exact t_0 | exact t_1 | exact t_2 | exact t_3 | exact t_n | exact lo_6 | exact hi_6 | exact i_3 | exact i_n | exact n_s2) | decide | omega) (by first | (with_reducible first | assumption | exact u_1 | exact u_2 | exact u_3 | exact i_0 | exact i_1 | exact i_2 | exact n_le | exact sub0 | exact c_0 | exact c_lo | exact c_le | exact c_lt | exact c_pos | exact n_s1 | exact n_eq | exact u_n | exact t_0 | exact t_1 | exact t_2 | exact t_3 | exact t_n | exact lo_6 | exact hi_6 | exact i_3 | exact i_n | exact n_s2) | decide | omega) (by first | (with_reducible first | assumption | exact u_1 | exact u_2 | exact u_3 | exact i_0 | exact i_1 | exact i_2 | exact n_le | exact sub0 | exact c_0 | exact c_lo | exact c_le | exact c_lt | exact c_pos | exact n_s1 | exact n_eq | exact u_n | exact t_0 | exact t_1 | exact t_2 | exact t_3 | exact t_n | exact lo_6 | exact hi_6 | exact i_3 | exact i_n | exact n_s2) | decide | omega) (by first | (with_reducible first | assumption | exact u_1 | exact u_2 | exact u_3 | exact i_0 | exact i_1 | exact i_2 | exact n_le | exact sub0 | exact c_0 | exact c_lo | exact c_le | exact c_lt | exact c_pos | exact n_s1 | exact n_eq | exact u_n | exact t_0 | exact t_1 | exact t_2 | exact t_3 | exact t_n | exact lo_6 | exact hi_6 | exact i_3 | exact i_n | exact n_s2) | decide | omega) ?_)
        intro f2 t7 h7 tk7 nw7 q7 q7' F7 N7 T7 K7
        have S7 := S6.tape kN6 K7 T7
        have hcp7 := keep_list S6.T kN6 K7 hcp6
        have tu7 := tape_keep_tups S6.T kN6 K7
        have hst7 := hst6.ups tu7
        have hca7 := hca6.ups tu7
        have hc7 := keep_ne K7 hc6 S6.far.b.1
        have hc17 := S7.c1
        refine hide_goal fun kHide => ?_
        obtain ⟨u1, u2, sv7, n7, po7, xs7, mm1, mm2, mm3, _⟩ := S7.La.ex
        refine kHide ?_
        clear kHide
        clear kN6 hcp6 hst6 hca6 hc6 S6 tu7 hc16
        dsimp only
        k_steps
        · rename News _ _ _ (_ :: _ :: nw7) => kN7
          refine Mark.un (ne_dat kN7 (.list (sub_2 kN7 _ hcp7) (hst7.mono (sub_2 kN7)).dat) (.list (vs := []) (ds := []) (mem_1 kN7) .nil) (steps_ok hok) rfl (by k_room) (fun he => ?_) (fun he => ?_))
          · (try dsimp only)
            k_steps
            rename News _ _ _ (_ :: _ :: _ :: nw7) => kN8
            rename _ ∧ _ ∧ AllLt _ nw7 => lP
            have Sa := S7.sub (sub_3 kN8)
            have hF := mem_1 kN8
            have nF := Nat.ne_of_gt (allLt_mem lP.2.2 _ mm3)
            refine Mark.un (nogood_list G ⟨rfl, rfl, by k_room, by k_room, rfl, rfl⟩ (by assumption) kN8 Sa.La (by first | (with_reducible first | assumption | exact u_1 | exact u_2 | exact u_3 | exact i_0 | exact i_1 | exact i_2 | exact n_le | exact sub0 | exact c_0 | exact c_lo | exact c_le | exact c_lt | exact c_pos | exact n_s1 | exact n_eq | exact u_n | exact t_0 | exact t_1 | exact t_2 | exact t_3 | exact t_n | exact lo_6 | exact hi_6 | exact i_3 | exact i_n | exact n_s2) | decide | omega) (hca7.mono (sub_3 kN8)) hF (vs := []) .nil (by simp) ?_)
            intro t8 h8 tk8 nw8 F8 N8 L8 K8
            have S8 := Sa.log kN8 K8 L8
            have tu8 := Sa.La.tups kN8 K8
            have hcp8 := Sa.La.keep kN8 K8 (sub_3 kN8 _ hcp7) hDs (by intro es ep e; cases e)
            have hst8 := (hst7.mono (sub_3 kN8)).ups tu8
            have hca8 := (hca7.mono (sub_3 kN8)).ups tu8
            have hc8 := keep2 K8 (sub_3 kN8 _ hc7) S7.far.b.2.1 S7.far.b.2.2
            have hF8 := Sa.La.keep kN8 K8 hF nF (by intro es ep e; cases e)
            refine hide_goal fun kHide => ?_
            obtain ⟨e1, e2, sv8, n8, po8, xs8, l1, l2, l3, _, _, _, hstL, _⟩ := L8.ex
            refine kHide ?_
            clear kHide
            have hlL := hstL.length
            clear kN8 Sa hF mm1 mm2 mm3 hcp7 hst7 hca7 hc7 hc17 S7 K8 tu8
            dsimp only
            k_steps
            rename News _ _ _ ( nw8) => kN9
            refine Mark.un (tup_list (vs := []) (by assumption) kN9 (sub_0 kN9 _ hF8) .nil (by simp) ?_)
            intro D9 h9 nw9 F9 N9 s9 lt9 i9
            have up9 : ∀ p ∈ nw8, p ∈ nw9 := fun p hp => s9 p (sub_0 kN9 p hp)
            skip
            have S9 := S8.sub up9
            have l1' := up9 _ l1
            have l2' := up9 _ l2
            have l3' := up9 _ l3
            have hcp9 := up9 _ hcp8
            have hc9 := up9 _ hc8
            have hca9 := hca8.mono up9
            have hst9 := hst8.mono up9
            have hstL9 := hstL.mono up9
            clear kN9 S8 l1 l2 l3 hcp8 hc8 hca8 hst8 hstL hF8
            dsimp only
            k_steps
            rename News _ _ _ (_ :: _ :: nw9) => kN10
            refine Mark.un (len_vs kN10 (sub_2 kN10 _ hcp9) hlv (by first | (with_reducible first | assumption | exact u_1 | exact u_2 | exact u_3 | exact i_0 | exact i_1 | exact i_2 | exact n_le | exact sub0 | exact c_0 | exact c_lo | exact c_le | exact c_lt | exact c_pos | exact n_s1 | exact n_eq | exact u_n | exact t_0 | exact t_1 | exact t_2 | exact t_3 | exact t_n | exact lo_6 | exact hi_6 | exact i_3 | exact i_n | exact n_s2) | decide | omega) fun t11 tk11 => ?_)
            have k1 := sub_2 kN10 _ l1'
            have k2 := sub_2 kN10 _ l2'
            have k3 := sub_2 kN10 _ l3'
            have k4 := sub_2 kN10 _ hc9
            dsimp only
            k_steps
            · exact absurd rfl (by assumption)
            rename News _ _ _ (_ :: _ :: _ :: nw9) => kN11
            refine add_lists (vs := sv) (ws := [_]) (by assumption) kN11 (kN11.isList (d := none) (sl := #[]) (sub_3 kN11 _ hcp9)) (kN11.isList (d := none) (sl := #[]) (mem_1 kN11)) ?_ (by rw [hlv, sizeLine_eq]; simp; first | (with_reducible first | assumption | exact u_1 | exact u_2 | exact u_3 | exact i_0 | exact i_1 | exact i_2 | exact n_le | exact sub0 | exact c_0 | exact c_lo | exact c_le | exact c_lt | exact c_pos | exact n_s1 | exact n_eq | exact u_n | exact t_0 | exact t_1 | exact t_2 | exact t_3 | exact t_n | exact lo_6 | exact hi_6 | exact i_3 | exact i_n | exact n_s2) | decide | omega)
            intro h12 F12 N12
            (try dsimp only)
            k_steps
            have hok' : ∀ x ∈ st ++ [(⟨Str.ofString "nogood", c, [], .none⟩ : Step)], StOk x := fun x hx => by
              rcases List.mem_append.mp hx with hx | hx
              · exact hok x hx
              · rw [List.mem_singleton.mp hx]; exact ⟨show PyData.strOk (Str.ofString "nogood") = true from by decide +kernel, hcok⟩
            have hnew := (hst9.mono (sub_4 N12)).snoc (s := ⟨Str.ofString "nogood", c, [], .none⟩) ⟨_, _, _, _, _, _, rfl, mem_4 N12, (hca9.mono (sub_4 N12)), (i9.ups (Tups.of_sub (sub_4 N12))), rfl⟩
            refine Mark.un (ne_dat N12 (.list (sub_4 N12 _ l3') (hstL9.mono (sub_4 N12)).dat) (.list (mem_1 N12) hnew.dat) (steps_ok hok') (steps_ok hok') (by k_room) (fun _ => ?_) (fun he => absurd rfl he))
            (try dsimp only)
            k_steps
            exact fend_of (S9.sub (sub_4 N12)) N12 (by assumption) (by rfl) (by simp; first | (with_reducible first | assumption | exact u_1 | exact u_2 | exact u_3 | exact i_0 | exact i_1 | exact i_2 | exact n_le | exact sub0 | exact c_0 | exact c_lo | exact c_le | exact c_lt | exact c_pos | exact n_s1 | exact n_eq | exact u_n | exact t_0 | exact t_1 | exact t_2 | exact t_3 | exact t_n | exact lo_6 | exact hi_6 | exact i_3 | exact i_n | exact n_s2) | decide | omega) hok' (by first | (with_reducible first | assumption | exact u_1 | exact u_2 | exact u_3 | exact i_0 | exact i_1 | exact i_2 | exact n_le | exact sub0 | exact c_0 | exact c_lo | exact c_le | exact c_lt | exact c_pos | exact n_s1 | exact n_eq | exact u_n | exact t_0 | exact t_1 | exact t_2 | exact t_3 | exact t_n | exact lo_6 | exact hi_6 | exact i_3 | exact i_n | exact n_s2) | decide | omega) (by first | (with_reducible first | assumption | exact u_1 | exact u_2 | exact u_3 | exact i_0 | exact i_1 | exact i_2 | exact n_le | exact sub0 | exact c_0 | exact c_lo | exact c_le | exact c_lt | exact c_pos | exact n_s1 | exact n_eq | exact u_n | exact t_0 | exact t_1 | exact t_2 | exact t_3 | exact t_n | exact lo_6 | exact hi_6 | exact i_3 | exact i_n | exact n_s2) | decide | omega) hoI ⟨_, kC1⟩ (by first | exact .inl rfl | exact .inr rfl)
          · have hpos := pos_of_ne he
            (try dsimp only)
            k_steps
            refine Mark.un (LCg.ListComp_U (F₀ := by k_asm) (by with_unfolding_all rfl) (by decide) (by rfl) (by decide) (by rfl) ?_)
            k_steps
            refine Mark.un (take_N G ⟨rfl, rfl, by k_room, by k_room, rfl, rfl⟩ (by assumption) kN7 (S7.sub (sub_2 kN7)).T kI hns (by first | (with_reducible first | assumption | exact u_1 | exact u_2 | exact u_3 | exact i_0 | exact i_1 | exact i_2 | exact n_le | exact sub0 | exact c_0 | exact c_lo | exact c_le | exact c_lt | exact c_pos | exact n_s1 | exact n_eq | exact u_n | exact t_0 | exact t_1 | exact t_2 | exact t_3 | exact t_n | exact lo_6 | exact hi_6 | exact i_3 | exact i_n | exact n_s2) | decide | omega) (by first | (with_reducible first | assumption | exact u_1 | exact u_2 | exact u_3 | exact i_0 | exact i_1 | exact i_2 | exact n_le | exact sub0 | exact c_0 | exact c_lo | exact c_le | exact c_lt | exact c_pos | exact n_s1 | exact n_eq | exact u_n | exact t_0 | exact t_1 | exact t_2 | exact t_3 | exact t_n | exact lo_6 | exact hi_6 | exact i_3 | exact i_n | exact n_s2) | decide | omega) (by first | (with_reducible first | assumption | exact u_1 | exact u_2 | exact u_3 | exact i_0 | exact i_1 | exact i_2 | exact n_le | exact sub0 | exact c_0 | exact c_lo | exact c_le | exact c_lt | exact c_pos | exact n_s1 | exact n_eq | exact u_n | exact t_0 | exact t_1 | exact t_2 | exact t_3 | exact t_n | exact lo_6 | exact hi_6 | exact i_3 | exact i_n | exact n_s2) | decide | omega) (by first | (with_reducible first | assumption | exact u_1 | exact u_2 | exact u_3 | exact i_0 | exact i_1 | exact i_2 | exact n_le | exact sub0 | exact c_0 | exact c_lo | exact c_le | exact c_lt | exact c_pos | exact n_s1 | exact n_eq | exact u_n | exact t_0 | exact t_1 | exact t_2 | exact t_3 | exact t_n | exact lo_6 | exact hi_6 | exact i_3 | exact i_n | exact n_s2) | decide | omega) ?_)
            intro nb tb hb tkb nwb qb qb' Fb Nb Tb Kb
            have Sb := S7.sub (sub_2 kN7)
            have Sc := Sb.tape kN7 Kb Tb
            have hcpb := keep_list Sb.T kN7 Kb (sub_2 kN7 _ hcp7)
            have tub := tape_keep_tups Sb.T kN7 Kb
            have hstb := (hst7.mono (sub_2 kN7)).ups tub
            have hcab := (hca7.mono (sub_2 kN7)).ups tub
            have hcb := keep_ne Kb (sub_2 kN7 _ hc7) Sb.far.b.1
            have hc1b := Sc.c1
            have hDb := Tb.ne_list Nb hcpb
            have TU : ∀ news, Keep [_] nwb news → Tups nwb news := fun news k => tape_keep_tups Sc.T Nb k
            have ST := fun (news : Led) (sp : Int) (k : Keep [_] nwb news) (T : TapeAt _ _ _ _ sp news) => Sc.tape Nb k T
            clear kN7 S7 Sb hcp7 hst7 hca7 hc7 hc17 mm1 mm2 mm3 tub Kb
            dsimp only
            k_steps
            refine hide_goal fun kHide => ?_
            obtain ⟨nn, rfl⟩ := Int.eq_ofNat_of_zero_le qb
            refine kHide ?_
            clear kHide
            have hn3 : nn ≤ 3 := by omega
            refine Mark.un (LCg.CompSrc.range (n := nn) (by rfl) (by k_asm) (by k_asm) (by assumption) (small_one (by first | (with_reducible first | assumption | exact u_1 | exact u_2 | exact u_3 | exact i_0 | exact i_1 | exact i_2 | exact n_le | exact sub0 | exact c_0 | exact c_lo | exact c_le | exact c_lt | exact c_pos | exact n_s1 | exact n_eq | exact u_n | exact t_0 | exact t_1 | exact t_2 | exact t_3 | exact t_n | exact lo_6 | exact hi_6 | exact i_3 | exact i_n | exact n_s2) | decide | omega) (by first | (with_reducible first | assumption | exact u_1 | exact u_2 | exact u_3 | exact i_0 | exact i_1 | exact i_2 | exact n_le | exact sub0 | exact c_0 | exact c_lo | exact c_le | exact c_lt | exact c_pos | exact n_s1 | exact n_eq | exact u_n | exact t_0 | exact t_1 | exact t_2 | exact t_3 | exact t_n | exact lo_6 | exact hi_6 | exact i_3 | exact i_n | exact n_s2) | decide | omega) (by first | (with_reducible first | assumption | exact u_1 | exact u_2 | exact u_3 | exact i_0 | exact i_1 | exact i_2 | exact n_le | exact sub0 | exact c_0 | exact c_lo | exact c_le | exact c_lt | exact c_pos | exact n_s1 | exact n_eq | exact u_n | exact t_0 | exact t_1 | exact t_2 | exact t_3 | exact t_n | exact lo_6 | exact hi_6 | exact i_3 | exact i_n | exact n_s2) | decide | omega) (by first | (with_reducible first | assumption | exact u_1 | exact u_2 | exact u_3 | exact i_0 | exact i_1 | exact i_2 | exact n_le | exact sub0 | exact c_0 | exact c_lo | exact c_le | exact c_lt | exact c_pos | exact n_s1 | exact n_eq | exact u_n | exact t_0 | exact t_1 | exact t_2 | exact t_3 | exact t_n | exact lo_6 | exact hi_6 | exact i_3 | exact i_n | exact n_s2) | decide | omega)) ((rangeSize_nat _ _).trans (by first | (with_reducible first | assumption | exact u_1 | exact u_2 | exact u_3 | exact i_0 | exact i_1 | exact i_2 | exact n_le | exact sub0 | exact c_0 | exact c_lo | exact c_le | exact c_lt | exact c_pos | exact n_s1 | exact n_eq | exact u_n | exact t_0 | exact t_1 | exact t_2 | exact t_3 | exact t_n | exact lo_6 | exact hi_6 | exact i_3 | exact i_n | exact n_s2) | decide | omega)) (by rw [sizeLine_eq]; first | (with_reducible first | assumption | exact u_1 | exact u_2 | exact u_3 | exact i_0 | exact i_1 | exact i_2 | exact n_le | exact sub0 | exact c_0 | exact c_lo | exact c_le | exact c_lt | exact c_pos | exact n_s1 | exact n_eq | exact u_n | exact t_0 | exact t_1 | exact t_2 | exact t_3 | exact t_n | exact lo_6 | exact hi_6 | exact i_3 | exact i_n | exact n_s2) | decide | omega) ?_)
            intro g1
            refine rest_takes (wide := (st.length : Int)) nn G ⟨rfl, rfl, by k_room, by k_room, rfl, rfl⟩ Sc.T kI hns (by first | (with_reducible first | assumption | exact u_1 | exact u_2 | exact u_3 | exact i_0 | exact i_1 | exact i_2 | exact n_le | exact sub0 | exact c_0 | exact c_lo | exact c_le | exact c_lt | exact c_pos | exact n_s1 | exact n_eq | exact u_n | exact t_0 | exact t_1 | exact t_2 | exact t_3 | exact t_n | exact lo_6 | exact hi_6 | exact i_3 | exact i_n | exact n_s2) | decide | omega) (by first | (with_reducible first | assumption | exact u_1 | exact u_2 | exact u_3 | exact i_0 | exact i_1 | exact i_2 | exact n_le | exact sub0 | exact c_0 | exact c_lo | exact c_le | exact c_lt | exact c_pos | exact n_s1 | exact n_eq | exact u_n | exact t_0 | exact t_1 | exact t_2 | exact t_3 | exact t_n | exact lo_6 | exact hi_6 | exact i_3 | exact i_n | exact n_s2) | decide | omega) (by first | (with_reducible first | assumption | exact u_1 | exact u_2 | exact u_3 | exact i_0 | exact i_1 | exact i_2 | exact n_le | exact sub0 | exact c_0 | exact c_lo | exact c_le | exact c_lt | exact c_pos | exact n_s1 | exact n_eq | exact u_n | exact t_0 | exact t_1 | exact t_2 | exact t_3 | exact t_n | exact lo_6 | exact hi_6 | exact i_3 | exact i_n | exact n_s2) | decide | omega) (by first | (with_reducible first | assumption | exact u_1 | exact u_2 | exact u_3 | exact i_0 | exact i_1 | exact i_2 | exact n_le | exact sub0 | exact c_0 | exact c_lo | exact c_le | exact c_lt | exact c_pos | exact n_s1 | exact n_eq | exact u_n | exact t_0 | exact t_1 | exact t_2 | exact t_3 | exact t_n | exact lo_6 | exact hi_6 | exact i_3 | exact i_n | exact n_s2) | decide | omega) ?_ ?_
            · intro news ys I oI C oC D m₂ h3 tk3 Q' E' K3 hC F3 N3 off ne hcall
              have c13 := sub_3 N3 _ (keep_ne K3 hc1b Sc.far.a.1)
              have c23 := sub_3 N3 _ (keep_ne K3 hcb Sc.far.b.1)
              have lp3 := sub_3 N3 _ (keep_ne K3 hcpb hDb)
              k_steps
              refine Mark.un (len_vs (by assumption) lp3 hlv (by first | (with_reducible first | assumption | exact u_1 | exact u_2 | exact u_3 | exact i_0 | exact i_1 | exact i_2 | exact n_le | exact sub0 | exact c_0 | exact c_lo | exact c_le | exact c_lt | exact c_pos | exact n_s1 | exact n_eq | exact u_n | exact t_0 | exact t_1 | exact t_2 | exact t_3 | exact t_n | exact lo_6 | exact hi_6 | exact i_3 | exact i_n | exact n_s2) | decide | omega) fun t3 tk3 => ?_)
              dsimp only
              k_steps
              exact Mark.un (hcall _ _)
            · intro ys xs news hy hl K3 T3
              unfold LCg.FinE
              intro D h3 tk3 F3 N3 o1
              have S7 := ST news _ K3 T3
              have hcp7 := keep_ne K3 hcpb hDb
              have hst7 := hstb.ups (TU news K3)
              have hca7 := hcab.ups (TU news K3)
              have hc7 := keep_ne K3 hcb Sc.far.b.1
              have hc17 := S7.c1
              have oo := off1_mem o1
              have hyl : ys.length ≤ 100 := by have := hy.length; omega
              refine hide_goal fun kHide => ?_
              obtain ⟨u1, u2, sv7, n7, po7, xs7, mm1, mm2, mm3, _⟩ := S7.La.ex
              refine kHide ?_
              clear kHide
              clear ST TU Sc hcpb hstb hcab hcb hc1b hDb K3 T3 Tb
              dsimp only
              k_steps
              rename News _ _ _ (_ :: news) => kN8
              have Sa := S7.sub (sub_1 kN8)
              have hF := mem_1 kN8
              have nF := (oo _ mm3).symm
              refine Mark.un (nogood_list G ⟨rfl, rfl, by k_room, by k_room, rfl, rfl⟩ (by assumption) kN8 Sa.La (by first | (with_reducible first | assumption | exact u_1 | exact u_2 | exact u_3 | exact i_0 | exact i_1 | exact i_2 | exact n_le | exact sub0 | exact c_0 | exact c_lo | exact c_le | exact c_lt | exact c_pos | exact n_s1 | exact n_eq | exact u_n | exact t_0 | exact t_1 | exact t_2 | exact t_3 | exact t_n | exact lo_6 | exact hi_6 | exact i_3 | exact i_n | exact n_s2) | decide | omega) (hca7.mono (sub_1 kN8)) hF (vs := ys) hy hyl ?_)
              intro t8 h8 tk8 nw8 F8 N8 L8 K8
              have S8 := Sa.log kN8 K8 L8
              have tu8 := Sa.La.tups kN8 K8
              have hcp8 := Sa.La.keep kN8 K8 (sub_1 kN8 _ hcp7) hDs (by intro es ep e; cases e)
              have hst8 := (hst7.mono (sub_1 kN8)).ups tu8
              have hca8 := (hca7.mono (sub_1 kN8)).ups tu8
              have hc8 := keep2 K8 (sub_1 kN8 _ hc7) S7.far.b.2.1 S7.far.b.2.2
              have hF8 := Sa.La.keep kN8 K8 hF nF (by intro es ep e; cases e)
              refine hide_goal fun kHide => ?_
              obtain ⟨e1, e2, sv8, n8, po8, xs8, l1, l2, l3, _, _, _, hstL, _⟩ := L8.ex
              refine kHide ?_
              clear kHide
              have hlL := hstL.length
              clear kN8 Sa hF mm1 mm2 mm3 hcp7 hst7 hca7 hc7 hc17 S7 K8 tu8
              dsimp only
              k_steps
              rename News _ _ _ ( nw8) => kN9
              refine Mark.un (tup_list (vs := ys) (by assumption) kN9 (sub_0 kN9 _ hF8) hy (by first | (with_reducible first | assumption | exact u_1 | exact u_2 | exact u_3 | exact i_0 | exact i_1 | exact i_2 | exact n_le | exact sub0 | exact c_0 | exact c_lo | exact c_le | exact c_lt | exact c_pos | exact n_s1 | exact n_eq | exact u_n | exact t_0 | exact t_1 | exact t_2 | exact t_3 | exact t_n | exact lo_6 | exact hi_6 | exact i_3 | exact i_n | exact n_s2) | decide | omega) ?_)
              intro D9 h9 nw9 F9 N9 s9 lt9 i9
              have up9 : ∀ p ∈ nw8, p ∈ nw9 := fun p hp => s9 p (sub_0 kN9 p hp)
              skip
              have S9 := S8.sub up9
              have l1' := up9 _ l1
              have l2' := up9 _ l2
              have l3' := up9 _ l3
              have hcp9 := up9 _ hcp8
              have hc9 := up9 _ hc8
              have hca9 := hca8.mono up9
              have hst9 := hst8.mono up9
              have hstL9 := hstL.mono up9
              clear kN9 S8 l1 l2 l3 hcp8 hc8 hca8 hst8 hstL hF8
              dsimp only
              k_steps
              rename News _ _ _ (_ :: _ :: nw9) => kN10
              refine Mark.un (len_vs kN10 (sub_2 kN10 _ hcp9) hlv (by first | (with_reducible first | assumption | exact u_1 | exact u_2 | exact u_3 | exact i_0 | exact i_1 | exact i_2 | exact n_le | exact sub0 | exact c_0 | exact c_lo | exact c_le | exact c_lt | exact c_pos | exact n_s1 | exact n_eq | exact u_n | exact t_0 | exact t_1 | exact t_2 | exact t_3 | exact t_n | exact lo_6 | exact hi_6 | exact i_3 | exact i_n | exact n_s2) | decide | omega) fun t11 tk11 => ?_)
              have k1 := sub_2 kN10 _ l1'
              have k2 := sub_2 kN10 _ l2'
              have k3 := sub_2 kN10 _ l3'
              have k4 := sub_2 kN10 _ hc9
              dsimp only
              k_steps
              · exact absurd rfl (by assumption)
              rename News _ _ _ (_ :: _ :: _ :: nw9) => kN11
              refine add_lists (vs := sv) (ws := [_]) (by assumption) kN11 (kN11.isList (d := none) (sl := #[]) (sub_3 kN11 _ hcp9)) (kN11.isList (d := none) (sl := #[]) (mem_1 kN11)) ?_ (by rw [hlv, sizeLine_eq]; simp; first | (with_reducible first | assumption | exact u_1 | exact u_2 | exact u_3 | exact i_0 | exact i_1 | exact i_2 | exact n_le | exact sub0 | exact c_0 | exact c_lo | exact c_le | exact c_lt | exact c_pos | exact n_s1 | exact n_eq | exact u_n | exact t_0 | exact t_1 | exact t_2 | exact t_3 | exact t_n | exact lo_6 | exact hi_6 | exact i_3 | exact i_n | exact n_s2) | decide | omega)
              intro h12 F12 N12
              (try dsimp only)
              k_steps
              have hok' : ∀ x ∈ st ++ [(⟨Str.ofString "nogood", c, xs, .none⟩ : Step)], StOk x := fun x hx => by
                rcases List.mem_append.mp hx with hx | hx
                · exact hok x hx
                · rw [List.mem_singleton.mp hx]; exact ⟨show PyData.strOk (Str.ofString "nogood") = true from by decide +kernel, hcok⟩
              have hnew := (hst9.mono (sub_4 N12)).snoc (s := ⟨Str.ofString "nogood", c, xs, .none⟩) ⟨_, _, _, _, _, _, rfl, mem_4 N12, (hca9.mono (sub_4 N12)), (i9.ups (Tups.of_sub (sub_4 N12))), rfl⟩
              refine Mark.un (ne_dat N12 (.list (sub_4 N12 _ l3') (hstL9.mono (sub_4 N12)).dat) (.list (mem_1 N12) hnew.dat) (steps_ok hok') (steps_ok hok') (by k_room) (fun _ => ?_) (fun he => absurd rfl he))
              (try dsimp only)
              k_steps
              exact fend_of (S9.sub (sub_4 N12)) N12 (by assumption) (by rfl) (by simp; first | (with_reducible first | assumption | exact u_1 | exact u_2 | exact u_3 | exact i_0 | exact i_1 | exact i_2 | exact n_le | exact sub0 | exact c_0 | exact c_lo | exact c_le | exact c_lt | exact c_pos | exact n_s1 | exact n_eq | exact u_n | exact t_0 | exact t_1 | exact t_2 | exact t_3 | exact t_n | exact lo_6 | exact hi_6 | exact i_3 | exact i_n | exact n_s2) | decide | omega) hok' (by first | (with_reducible first | assumption | exact u_1 | exact u_2 | exact u_3 | exact i_0 | exact i_1 | exact i_2 | exact n_le | exact sub0 | exact c_0 | exact c_lo | exact c_le | exact c_lt | exact c_pos | exact n_s1 | exact n_eq | exact u_n | exact t_0 | exact t_1 | exact t_2 | exact t_3 | exact t_n | exact lo_6 | exact hi_6 | exact i_3 | exact i_n | exact n_s2) | decide | omega) (by first | (with_reducible first | assumption | exact u_1 | exact u_2 | exact u_3 | exact i_0 | exact i_1 | exact i_2 | exact n_le | exact sub0 | exact c_0 | exact c_lo | exact c_le | exact c_lt | exact c_pos | exact n_s1 | exact n_eq | exact u_n | exact t_0 | exact t_1 | exact t_2 | exact t_3 | exact t_n | exact lo_6 | exact hi_6 | exact i_3 | exact i_n | exact n_s2) | decide | omega) hoI ⟨_, kC1⟩ (by first | exact .inl rfl | exact .inr rfl)
        · rename News _ _ _ (_ :: nw7) => kN8
          rename ∀ (p : Addr × Obj), p ∈ nw7 → p.fst < _ => lF
          have Sa := S7.sub (sub_1 kN8)
          have hF := mem_1 kN8
          have nF := Nat.ne_of_gt (lF _ mm3)
          refine Mark.un (better_N G ⟨rfl, rfl, by k_room, by k_room, rfl, rfl⟩ (by assumption) kN8 Sa.La (by first | (with_reducible first | assumption | exact u_1 | exact u_2 | exact u_3 | exact i_0 | exact i_1 | exact i_2 | exact n_le | exact sub0 | exact c_0 | exact c_lo | exact c_le | exact c_lt | exact c_pos | exact n_s1 | exact n_eq | exact u_n | exact t_0 | exact t_1 | exact t_2 | exact t_3 | exact t_n | exact lo_6 | exact hi_6 | exact i_3 | exact i_n | exact n_s2) | decide | omega) hF (vs := [_, _]) (.cons _ _ (.cons _ _ .nil)) (by simp) ?_)
          intro t8 h8 tk8 nw8 F8 N8 L8 K8
          have S8 := Sa.log kN8 K8 L8
          have tu8 := Sa.La.tups kN8 K8
          have hcp8 := Sa.La.keep kN8 K8 (sub_1 kN8 _ hcp7) hDs (by intro es ep e; cases e)
          have hst8 := (hst7.mono (sub_1 kN8)).ups tu8
          have hca8 := (hca7.mono (sub_1 kN8)).ups tu8
          have hc8 := keep2 K8 (sub_1 kN8 _ hc7) S7.far.b.2.1 S7.far.b.2.2
          have hF8 := Sa.La.keep kN8 K8 hF nF (by intro es ep e; cases e)
          refine hide_goal fun kHide => ?_
          obtain ⟨e1, e2, sv8, n8, po8, xs8, l1, l2, l3, _, _, _, hstL, _⟩ := L8.ex
          refine kHide ?_
          clear kHide
          have hlL := hstL.length
          clear kN8 Sa hF mm1 mm2 mm3 hcp7 hst7 hca7 hc7 hc17 S7 K8 tu8
          dsimp only
          k_steps
          refine Mark.un (listAt (by assumption) hF8 (by decide) (show (1 : Int) < ((2 : Nat) : Int) by decide) (by decide) fun v hv => ?_)
          obtain rfl : Value.int (f2 - 1) (tk7 + 1) = v := Option.some.inj hv
          dsimp only
          k_steps
          rename News _ _ _ (_ :: _ :: _ :: nw8) => kN9
          refine Mark.un (tup_list (vs := [_, _]) (by assumption) kN9 (sub_3 kN9 _ hF8) (.cons _ _ (.cons _ _ .nil)) (by simp) ?_)
          intro D9 h9 nw9 F9 N9 s9 lt9 i9
          have up9 : ∀ p ∈ nw8, p ∈ nw9 := fun p hp => s9 p (sub_3 kN9 p hp)
          have hE9 := s9 _ (mem_1 kN9)
          have hC9 := s9 _ (mem_2 kN9)
          have hl9 := s9 _ (mem_3 kN9)
          have S9 := S8.sub up9
          have l1' := up9 _ l1
          have l2' := up9 _ l2
          have l3' := up9 _ l3
          have hcp9 := up9 _ hcp8
          have hc9 := up9 _ hc8
          have hca9 := hca8.mono up9
          have hst9 := hst8.mono up9
          have hstL9 := hstL.mono up9
          clear kN9 S8 l1 l2 l3 hcp8 hc8 hca8 hst8 hstL hF8
          dsimp only
          k_steps
          rename News _ _ _ (_ :: _ :: nw9) => kN10
          refine Mark.un (len_vs kN10 (sub_2 kN10 _ hcp9) hlv (by first | (with_reducible first | assumption | exact u_1 | exact u_2 | exact u_3 | exact i_0 | exact i_1 | exact i_2 | exact n_le | exact sub0 | exact c_0 | exact c_lo | exact c_le | exact c_lt | exact c_pos | exact n_s1 | exact n_eq | exact u_n | exact t_0 | exact t_1 | exact t_2 | exact t_3 | exact t_n | exact lo_6 | exact hi_6 | exact i_3 | exact i_n | exact n_s2) | decide | omega) fun t11 tk11 => ?_)
          have k1 := sub_2 kN10 _ l1'
          have k2 := sub_2 kN10 _ l2'
          have k3 := sub_2 kN10 _ l3'
          have k4 := sub_2 kN10 _ hc9
          dsimp only
          k_steps
          · exact absurd rfl (by assumption)
          rename News _ _ _ (_ :: _ :: _ :: nw9) => kN11
          refine add_lists (vs := sv) (ws := [_]) (by assumption) kN11 (kN11.isList (d := none) (sl := #[]) (sub_3 kN11 _ hcp9)) (kN11.isList (d := none) (sl := #[]) (mem_1 kN11)) ?_ (by rw [hlv, sizeLine_eq]; simp; first | (with_reducible first | assumption | exact u_1 | exact u_2 | exact u_3 | exact i_0 | exact i_1 | exact i_2 | exact n_le | exact sub0 | exact c_0 | exact c_lo | exact c_le | exact c_lt | exact c_pos | exact n_s1 | exact n_eq | exact u_n | exact t_0 | exact t_1 | exact t_2 | exact t_3 | exact t_n | exact lo_6 | exact hi_6 | exact i_3 | exact i_n | exact n_s2) | decide | omega)
          intro h12 F12 N12
          (try dsimp only)
          k_steps
          have hok' : ∀ x ∈ st ++ [(⟨Str.ofString "better", [(1, Str.ofString "<=", f2 - 1 - 1)], [], .ints [f1 - 1, f2 - 1]⟩ : Step)], StOk x := fun x hx => by
            rcases List.mem_append.mp hx with hx | hx
            · exact hok x hx
            · rw [List.mem_singleton.mp hx]; exact ⟨show PyData.strOk (Str.ofString "better") = true from by decide +kernel, (fun l hl => by rw [List.mem_singleton.mp hl]; exact List.mem_cons_self ..)⟩
          have hnew := (hst9.mono (sub_4 N12)).snoc (s := ⟨Str.ofString "better", [(1, Str.ofString "<=", f2 - 1 - 1)], [], .ints [f1 - 1, f2 - 1]⟩) ⟨_, _, _, _, _, _, rfl, mem_4 N12, ⟨[((1, Str.ofString "<=", f2 - 1 - 1), _)], _, sub_4 N12 _ hC9, rfl, fun q hq => by rw [List.mem_singleton.mp hq]; exact ⟨_, _, _, _, sub_4 N12 _ hl9⟩⟩, ⟨[], _, sub_4 N12 _ hE9, .nil⟩, ⟨_, rfl, i9.ups (Tups.of_sub (sub_4 N12))⟩⟩
          refine Mark.un (ne_dat N12 (.list (sub_4 N12 _ l3') (hstL9.mono (sub_4 N12)).dat) (.list (mem_1 N12) hnew.dat) (steps_ok hok') (steps_ok hok') (by k_room) (fun _ => ?_) (fun he => absurd rfl he))
          (try dsimp only)
          k_steps
          exact fend_of (S9.sub (sub_4 N12)) N12 (by assumption) (by rfl) (by simp; first | (with_reducible first | assumption | exact u_1 | exact u_2 | exact u_3 | exact i_0 | exact i_1 | exact i_2 | exact n_le | exact sub0 | exact c_0 | exact c_lo | exact c_le | exact c_lt | exact c_pos | exact n_s1 | exact n_eq | exact u_n | exact t_0 | exact t_1 | exact t_2 | exact t_3 | exact t_n | exact lo_6 | exact hi_6 | exact i_3 | exact i_n | exact n_s2) | decide | omega) hok' (by first | (with_reducible first | assumption | exact u_1 | exact u_2 | exact u_3 | exact i_0 | exact i_1 | exact i_2 | exact n_le | exact sub0 | exact c_0 | exact c_lo | exact c_le | exact c_lt | exact c_pos | exact n_s1 | exact n_eq | exact u_n | exact t_0 | exact t_1 | exact t_2 | exact t_3 | exact t_n | exact lo_6 | exact hi_6 | exact i_3 | exact i_n | exact n_s2) | decide | omega) (by first | (with_reducible first | assumption | exact u_1 | exact u_2 | exact u_3 | exact i_0 | exact i_1 | exact i_2 | exact n_le | exact sub0 | exact c_0 | exact c_lo | exact c_le | exact c_lt | exact c_pos | exact n_s1 | exact n_eq | exact u_n | exact t_0 | exact t_1 | exact t_2 | exact t_3 | exact t_n | exact lo_6 | exact hi_6 | exact i_3 | exact i_n | exact n_s2) | decide | omega) hoI ⟨_, kC1⟩ (by first | exact .inl rfl | exact .inr rfl)
        · rename News _ _ _ (_ :: nw7) => kN8
          rename ∀ (p : Addr × Obj), p ∈ nw7 → p.fst < _ => lF
          have Sa := S7.sub (sub_1 kN8)
          have hF := mem_1 kN8
          have nF := Nat.ne_of_gt (lF _ mm3)
          refine Mark.un (seen_N G ⟨rfl, rfl, by k_room, by k_room, rfl, rfl⟩ (by assumption) kN8 Sa.La (by first | (with_reducible first | assumption | exact u_1 | exact u_2 | exact u_3 | exact i_0 | exact i_1 | exact i_2 | exact n_le | exact sub0 | exact c_0 | exact c_lo | exact c_le | exact c_lt | exact c_pos | exact n_s1 | exact n_eq | exact u_n | exact t_0 | exact t_1 | exact t_2 | exact t_3 | exact t_n | exact lo_6 | exact hi_6 | exact i_3 | exact i_n | exact n_s2) | decide | omega) (hca7.mono (sub_1 kN8)) hF (vs := [_, _]) (.cons _ _ (.cons _ _ .nil)) (by simp) ?_)
          intro t8 h8 tk8 nw8 F8 N8 L8 K8
          have S8 := Sa.log kN8 K8 L8
          have tu8 := Sa.La.tups kN8 K8
          have hcp8 := Sa.La.keep kN8 K8 (sub_1 kN8 _ hcp7) hDs (by intro es ep e; cases e)
          have hst8 := (hst7.mono (sub_1 kN8)).ups tu8
          have hca8 := (hca7.mono (sub_1 kN8)).ups tu8
          have hc8 := keep2 K8 (sub_1 kN8 _ hc7) S7.far.b.2.1 S7.far.b.2.2
          have hF8 := Sa.La.keep kN8 K8 hF nF (by intro es ep e; cases e)
          refine hide_goal fun kHide => ?_
          obtain ⟨e1, e2, sv8, n8, po8, xs8, l1, l2, l3, _, _, _, hstL, _⟩ := L8.ex
          refine kHide ?_
          clear kHide
          have hlL := hstL.length
          clear kN8 Sa hF mm1 mm2 mm3 hcp7 hst7 hca7 hc7 hc17 S7 K8 tu8
          dsimp only
          k_steps
          rename News _ _ _ (_ :: nw8) => kN9
          refine Mark.un (tup_list (vs := [_, _]) (by assumption) kN9 (sub_1 kN9 _ hF8) (.cons _ _ (.cons _ _ .nil)) (by simp) ?_)
          intro D9 h9 nw9 F9 N9 s9 lt9 i9
          have up9 : ∀ p ∈ nw8, p ∈ nw9 := fun p hp => s9 p (sub_1 kN9 p hp)
          have hE9 := s9 _ (mem_1 kN9)
          have S9 := S8.sub up9
          have l1' := up9 _ l1
          have l2' := up9 _ l2
          have l3' := up9 _ l3
          have hcp9 := up9 _ hcp8
          have hc9 := up9 _ hc8
          have hca9 := hca8.mono up9
          have hst9 := hst8.mono up9
          have hstL9 := hstL.mono up9
          clear kN9 S8 l1 l2 l3 hcp8 hc8 hca8 hst8 hstL hF8
          dsimp only
          k_steps
          rename News _ _ _ (_ :: _ :: nw9) => kN10
          refine Mark.un (len_vs kN10 (sub_2 kN10 _ hcp9) hlv (by first | (with_reducible first | assumption | exact u_1 | exact u_2 | exact u_3 | exact i_0 | exact i_1 | exact i_2 | exact n_le | exact sub0 | exact c_0 | exact c_lo | exact c_le | exact c_lt | exact c_pos | exact n_s1 | exact n_eq | exact u_n | exact t_0 | exact t_1 | exact t_2 | exact t_3 | exact t_n | exact lo_6 | exact hi_6 | exact i_3 | exact i_n | exact n_s2) | decide | omega) fun t11 tk11 => ?_)
          have k1 := sub_2 kN10 _ l1'
          have k2 := sub_2 kN10 _ l2'
          have k3 := sub_2 kN10 _ l3'
          have k4 := sub_2 kN10 _ hc9
          dsimp only
          k_steps
          · exact absurd rfl (by assumption)
          rename News _ _ _ (_ :: _ :: _ :: nw9) => kN11
          refine add_lists (vs := sv) (ws := [_]) (by assumption) kN11 (kN11.isList (d := none) (sl := #[]) (sub_3 kN11 _ hcp9)) (kN11.isList (d := none) (sl := #[]) (mem_1 kN11)) ?_ (by rw [hlv, sizeLine_eq]; simp; first | (with_reducible first | assumption | exact u_1 | exact u_2 | exact u_3 | exact i_0 | exact i_1 | exact i_2 | exact n_le | exact sub0 | exact c_0 | exact c_lo | exact c_le | exact c_lt | exact c_pos | exact n_s1 | exact n_eq | exact u_n | exact t_0 | exact t_1 | exact t_2 | exact t_3 | exact t_n | exact lo_6 | exact hi_6 | exact i_3 | exact i_n | exact n_s2) | decide | omega)
          intro h12 F12 N12
          (try dsimp only)
          k_steps
          have hok' : ∀ x ∈ st ++ [(⟨Str.ofString "seen", c, [], .ints [f1 - 1, f2 - 1]⟩ : Step)], StOk x := fun x hx => by
            rcases List.mem_append.mp hx with hx | hx
            · exact hok x hx
            · rw [List.mem_singleton.mp hx]; exact ⟨show PyData.strOk (Str.ofString "seen") = true from by decide +kernel, hcok⟩
          have hnew := (hst9.mono (sub_4 N12)).snoc (s := ⟨Str.ofString "seen", c, [], .ints [f1 - 1, f2 - 1]⟩) ⟨_, _, _, _, _, _, rfl, mem_4 N12, (hca9.mono (sub_4 N12)), ⟨[], _, sub_4 N12 _ hE9, .nil⟩, ⟨_, rfl, ⟨_, _, sub_4 N12 _ i9.choose_spec.choose_spec.1, i9.choose_spec.choose_spec.2⟩⟩⟩
          refine Mark.un (ne_dat N12 (.list (sub_4 N12 _ l3') (hstL9.mono (sub_4 N12)).dat) (.list (mem_1 N12) hnew.dat) (steps_ok hok') (steps_ok hok') (by k_room) (fun _ => ?_) (fun he => absurd rfl he))
          (try dsimp only)
          k_steps
          exact fend_of (S9.sub (sub_4 N12)) N12 (by assumption) (by rfl) (by simp; first | (with_reducible first | assumption | exact u_1 | exact u_2 | exact u_3 | exact i_0 | exact i_1 | exact i_2 | exact n_le | exact sub0 | exact c_0 | exact c_lo | exact c_le | exact c_lt | exact c_pos | exact n_s1 | exact n_eq | exact u_n | exact t_0 | exact t_1 | exact t_2 | exact t_3 | exact t_n | exact lo_6 | exact hi_6 | exact i_3 | exact i_n | exact n_s2) | decide | omega) hok' (by first | (with_reducible first | assumption | exact u_1 | exact u_2 | exact u_3 | exact i_0 | exact i_1 | exact i_2 | exact n_le | exact sub0 | exact c_0 | exact c_lo | exact c_le | exact c_lt | exact c_pos | exact n_s1 | exact n_eq | exact u_n | exact t_0 | exact t_1 | exact t_2 | exact t_3 | exact t_n | exact lo_6 | exact hi_6 | exact i_3 | exact i_n | exact n_s2) | decide | omega) (by first | (with_reducible first | assumption | exact u_1 | exact u_2 | exact u_3 | exact i_0 | exact i_1 | exact i_2 | exact n_le | exact sub0 | exact c_0 | exact c_lo | exact c_le | exact c_lt | exact c_pos | exact n_s1 | exact n_eq | exact u_n | exact t_0 | exact t_1 | exact t_2 | exact t_3 | exact t_n | exact lo_6 | exact hi_6 | exact i_3 | exact i_n | exact n_s2) | decide | omega) hoI ⟨_, kC1⟩ (by first | exact .inl rfl | exact .inr rfl)
  · intro m nw h tk d hJ F N
    k_steps
end
end Mine
end
end
theorem PySem.Challenge.cw_qd0004_01_holds : PySem.Challenge.rw_qd0004_01.Holds :=
  Mine.law_row
